import PyProof.Rows.All
import Wide.All
import OpenK.AllK
import Wide.FinOn
import HandS.ForMost
import HandS.Exc
import HandS.ExcOwn
import HandS.WordsExc
import HandS.Wide
import HandS.TupAny
import HandS.IsInst
import HandS.Walk
import HandS.Zip
import HandS.Rev
import HandS.Codes
import HandS.Conv
import HandS.Deep
import KE.DataEq
import HandS.More
import PyProof.EqAt
import PyProof.NeKinds
import HandS.Dict
import HandS.SetKeys
import HandS.WordsDict
import KE.KDictKeyed
import HandS.RaiseMore
import HandS.SortInts
import HandS.SortRule
import HandS.Replace
import HandS.RevRange
import HandS.Style
import HandS.ExcCtx
import HandS.EndBits
import HandS.Defaults
import HandS.Head0
import HandS.Head1
import HandS.Head2
import HandS.HeadEnd
import HandS.HeadHook1
import HandS.HeadHook2
import HandS.RevTup
import HandS.TryOnly
import HandS.ExcIs
import HandS.ExcField
import HandS.ExcInit
import KE.KExcIs
import HandS.HotCalls
import KE.DataFind
import HandS.Text
import HandS.DictComp
import HandS.DeepEq
import KE.GoesMore
import HandS.Comp
import KE.GoesComp
import KE.KAsSuite
import HandS.List
import HandS.Hot
import HandS.SuiteRaise
import HandS.RaiseFrom
import PySem.Challenge.RW_stitchroom_k41_charts_read
set_option Elab.async false
set_option linter.all false
set_option maxRecDepth 100000
set_option maxHeartbeats 4000000
namespace Mx
open PySem L2 RZ RT
inductive D where
  | non | bl (b : Bool) | int (i : Int) | str (x : Str)
  | tup (ds : List D) | lst (ds : List D) | obj (c : Nat) (ds : List D)
  | ref (n : Nat) | frz (ds : List D) | exv (c : Nat) (ds : List D)
  | twn (xs : List V) (ds : List D)
  deriving Inhabited
mutual
def chkD (K : PySem.W.Frag) : Nat → Value → D → Bool
  | _, .none, .non => true
  | _, .bool b, .bl k => b == k
  | _, .int j _, .int i => decide (i = j)
  | _, .str y _, .str x => decide (x = y)
  | n + 1, .ref a, .tup ds => (match K.lookup a with
    | some ⟨.type c, _, .seq its _, _⟩ => decide (c = "tuple") && (decide (its.size ≤ sizeLine) && chkDs K n its.toList ds)
    | _ => false)
  | n + 1, .ref a, .frz ds => (match K.lookup a with
    | some ⟨.type c, .none, .seq its _, _⟩ => decide (c = "list") && (decide (its.size ≤ sizeLine) && chkDs K n its.toList ds)
    | _ => false)
  | _, _, _ => false
def chkDs (K : PySem.W.Frag) : Nat → List Value → List D → Bool
  | _, [], [] => true
  | n + 1, u :: us, d :: ds => chkD K n u d && chkDs K n us ds
  | _, _, _ => false
end
section
open He
abbrev AlM : Type := Bool × List FnW
def frc {α : Type} (n : Nat) (F : Nat → α) : α := Nat.rec (motive := fun _ => α) (F 0) (fun k _ => F (k + 1)) n
def addNew : List Addr → Nat → List Addr → (Nat → List Addr → List Addr) → List Addr
  | [], seen, acc, k => k seen acc
  | a :: r, seen, acc, k => frc a fun a => bif Nat.testBit seen a then addNew r seen acc k else frc (seen ||| (1 <<< a)) fun seen => addNew r seen (a :: acc) k
def refsOf (g : Addr → Option Obj) (a : Addr) : List Addr := match g a with
  | some o => He.refsD o
  | none => []
def asQ (g : Addr → Option Obj) : Nat → List Addr → Nat → List Addr → List Addr
  | 0, _, _, all => all
  | n + 1, fr, seen, all => addNew (fr.flatMap (refsOf g)) seen [] fun seen new => asQ g n new seen (all ++ new)
def asR (g : Addr → Option Obj) (n : Nat) : List Addr := asQ g n [mainGlobals] (1 <<< mainGlobals) [mainGlobals]
def obsM (n : Nat) (fa : List Fa) (fn : List DefD) (ex : PySem.W.Frag → Bool) (g : Addr → Option Obj) : Bool × AlM := (ex (frG g (asR g n)), obsD fa fn (frG g (asR g n)))
def hookM (n : Nat) (fa : List Fa) (fn : List DefD) (ex : PySem.W.Frag → Bool) : PySem.W.Hook where
  α := Bool × AlM
  obs := fun s => obsM n fa fn ex s.heap.get?
  val := fun _ => (true, valD fn)
  says := fun _ h => ∃ K : PySem.W.Frag, K.In h ∧ SaysD fa fn K ∧ ex K = true
  of := fun _ _ e => ⟨_, frG_in, (Prod.mk.inj e).2, (Prod.mk.inj e).1⟩
  keeps := fun _ _ _ ⟨K, hK, c⟩ k => ⟨K, PySem.W.Frag.In.keeps hK k, c⟩
theorem obsM_eq {n : Nat} {fa : List Fa} {fn : List DefD} {ex : PySem.W.Frag → Bool} {g : Addr → Option Obj} {s : Shared} (h : ∀ a, g a = s.heap.get? a) : obsM n fa fn ex g = (hookM n fa fn ex).obs s := by
  have e : g = s.heap.get? := funext h
  rw [e] <;> rfl
end
open He in
inductive Fq where
  | pl (x : Str)
  | ins (x : Str)
  | kit (x : Str) (T : Str ⊕ String) (b : Bool)
  | tyk (t : String) (y : Str) (b : Bool)
  | const (x : Str) (d : D)
  | same (x y m : Str)
  | exc (x : Str)
  | rai (x : Str)
  | oex (x : Str)
  | noa (x f : Str)
  | exm (x y : Str) (b : Bool)
  | kia (x : Str) (ys : List Str) (b : Bool)
def oexB (K : PySem.W.Frag) (C : Addr) : Bool := match K.lookup C with
  | some ⟨.type t, _, .cls cd, sl⟩ => (match cd.mro, sl.toList with
    | .ref C' :: bm, [_, _, _, _, some (.builtin n), _] => decide (t = "type") && (C' == C && (n == "ValueError.__new__" && (!cd.hasDel && (cd.hasDict && PySem.HandSPX.refsVE bm))))
    | _, _ => false)
  | _ => false
open He in
def Fq.ok (K : PySem.W.Frag) : Fq → Bool
  | .pl x => PySem.W.makesIn K (ga K x) && (eqO (PySem.W.findIn K (.ref (ga K x)) "__init__") (some (some (.builtin "object.__init__"))) && PySem.W.keepIn K (.ref (ga K x)))
  | .ins x => eqO (PySem.W.findIn K (.ref (ga K x)) "__class__") (some (some (.builtin "object.__class__"))) && (eqO (PySem.W.specialIn K (.builtin "object.__class__") "__get__") (some (some (.builtin "getset_descriptor.__get__"))) && (decide (PySem.W.takesIn K (.builtin "object.__class__") = some true) && decide (PySem.W.mroIn K (ga K x) (.type "object") = some true)))
  | .kit x (.inl y) b => decide (PySem.W.kitOne K (.ref (ga K x)) (.ref (ga K y)) = some b)
  | .kit x (.inr T) b => decide (PySem.W.kitOne K (.ref (ga K x)) (.type T) = some b)
  | .tyk t y b => decide (PySem.W.kitOne K (.type t) (.ref (ga K y)) = some b)
  | .const x d => (match PySem.W.nsIn K mainGlobals x with
    | some (some v) => chkD K 60 v d
    | _ => false)
  | .same x y m => decide (ma K (ga K x) m = ma K (ga K y) m)
  | .exc x => decide (PySem.W.findIn K (.ref (ga K x)) "__getattribute__" = some (some (.builtin "BaseException.__getattribute__"))) && (decide (PySem.W.findIn K (.ref (ga K x)) "__getattr__" = some none) && (decide (PySem.W.subIn K (.ref (ga K x)) (.type "BaseException") = some true) && (PySem.W.hasDictIn K (ga K x) && (
    decide (PySem.W.findIn K (.ref (ga K x)) "__class__" = some (some (.builtin "object.__class__"))) && (decide (PySem.W.specialIn K (.builtin "object.__class__") "__get__" = some (some (.builtin "getset_descriptor.__get__"))) && (decide (PySem.W.takesIn K (.builtin "object.__class__") = some true) && (decide (PySem.W.mroIn K (ga K x) (.type "object") = some true) && decide (PySem.W.typeIn K (.ref (ga K x)) = some (.type "type")))))))))
  | .rai x => PySem.W.excIn K (ga K x) [.type "ValueError", .type "Exception", .type "BaseException", .type "object"] "ValueError.__new__" && PySem.W.keepIn K (.ref (ga K x))
  | .oex x => oexB K (ga K x) && (decide (PySem.W.findIn K (.ref (ga K x)) "__setattr__" = some (some (.builtin "object.__setattr__"))) && (PySem.W.keepIn K (.ref (ga K x)) && (decide (PySem.W.findIn K (.ref (ga K x)) "__init__" = some (some (.ref (ma K (ga K x) "__init__")))) && decide (PySem.W.typeIn K (.ref (ma K (ga K x) "__init__")) = some (.type "function")))))
  | .noa x f => decide (PySem.W.findIn K (.ref (ga K x)) f = some none)
  | .exm x y b => decide (PySem.W.exmOne K (.ref (ga K x)) (.ref (ga K y)) = some b)
  | .kia x ys b => decide (PySem.W.kitAny K (.ref (ga K x)) (ys.map fun y => .ref (ga K y)) = some b)
end Mx
namespace Kn
open PySem L2 Mx
def top (i : Nat) : Stmt := PySem.Challenge.pw_stitchroom_k41_charts_read.main.body.getD i (.Pass ⟨0, 0, 0, 0⟩)
abbrev st_Stitch_mark : Stmt := inClass (top 16) 4
abbrev st_letter_of : Stmt := top 15
abbrev st_Plain_mark : Stmt := inClass (top 17) 2
abbrev st_Slip_mark : Stmt := inClass (top 18) 1
abbrev st_Over_mark : Stmt := inClass (top 19) 2
abbrev st_Lean_mark : Stmt := inClass (top 20) 3
abbrev st_Grow_mark : Stmt := inClass (top 21) 2
abbrev st_Cross_mark : Stmt := inClass (top 22) 3
abbrev st_Off_mark : Stmt := inClass (top 23) 1
abbrev st_Keep_mark : Stmt := inClass (top 24) 2
abbrev st_Fetch_mark : Stmt := inClass (top 25) 3
abbrev st_Fetch_init : Stmt := inClass (top 25) 0
abbrev st_Keep_init : Stmt := inClass (top 24) 0
abbrev st_Plain_init : Stmt := inClass (top 17) 0
abbrev st_short_one : Stmt := top 28
abbrev st_Cross_init : Stmt := inClass (top 22) 0
abbrev st_Grow_init : Stmt := inClass (top 21) 0
abbrev st_Lean_init : Stmt := inClass (top 20) 0
abbrev st_long_one : Stmt := top 29
abbrev st_stitch : Stmt := top 30
abbrev st_read_mark : Stmt := top 34
abbrev st_read_row : Stmt := top 35
abbrev st_read_cast : Stmt := top 33
abbrev st_read_chart : Stmt := top 36
abbrev st__law_read : Stmt := top 48
abbrev st__law_class_told : Stmt := top 46
abbrev st__law_refused : Stmt := top 47
abbrev st__law_no_cast : Stmt := top 43
abbrev st__law_no_row : Stmt := top 42
abbrev st__law_no_chart : Stmt := top 44
abbrev st__law_spoiled : Stmt := top 45
abbrev st__law_cell_at : Stmt := top 38
abbrev st__law_texts : Stmt := top 41
abbrev st__law_mark : Stmt := top 39
abbrev st__law_rows : Stmt := top 40
abbrev st_law : Stmt := top 49
def d0 : He.DefD := ⟨("Stitch", some "mark"), "mark", "Stitch.mark", defArgs st_Stitch_mark, defBody st_Stitch_mark, defScope st_Stitch_mark, [], []⟩
def d1 : He.DefD := ⟨("letter_of", none), "letter_of", "letter_of", defArgs st_letter_of, defBody st_letter_of, defScope st_letter_of, [], []⟩
def d2 : He.DefD := ⟨("Plain", some "mark"), "mark", "Plain.mark", defArgs st_Plain_mark, defBody st_Plain_mark, defScope st_Plain_mark, [], []⟩
def d3 : He.DefD := ⟨("Slip", some "mark"), "mark", "Slip.mark", defArgs st_Slip_mark, defBody st_Slip_mark, defScope st_Slip_mark, [], []⟩
def d4 : He.DefD := ⟨("Over", some "mark"), "mark", "Over.mark", defArgs st_Over_mark, defBody st_Over_mark, defScope st_Over_mark, [], []⟩
def d5 : He.DefD := ⟨("Lean", some "mark"), "mark", "Lean.mark", defArgs st_Lean_mark, defBody st_Lean_mark, defScope st_Lean_mark, [], []⟩
def d6 : He.DefD := ⟨("Grow", some "mark"), "mark", "Grow.mark", defArgs st_Grow_mark, defBody st_Grow_mark, defScope st_Grow_mark, [], []⟩
def d7 : He.DefD := ⟨("Cross", some "mark"), "mark", "Cross.mark", defArgs st_Cross_mark, defBody st_Cross_mark, defScope st_Cross_mark, [], []⟩
def d8 : He.DefD := ⟨("Off", some "mark"), "mark", "Off.mark", defArgs st_Off_mark, defBody st_Off_mark, defScope st_Off_mark, [], []⟩
def d9 : He.DefD := ⟨("Keep", some "mark"), "mark", "Keep.mark", defArgs st_Keep_mark, defBody st_Keep_mark, defScope st_Keep_mark, [], []⟩
def d10 : He.DefD := ⟨("Fetch", some "mark"), "mark", "Fetch.mark", defArgs st_Fetch_mark, defBody st_Fetch_mark, defScope st_Fetch_mark, [], []⟩
def d11 : He.DefD := ⟨("Fetch", some "__init__"), "__init__", "Fetch.__init__", defArgs st_Fetch_init, defBody st_Fetch_init, defScope st_Fetch_init, [], []⟩
def d12 : He.DefD := ⟨("Keep", some "__init__"), "__init__", "Keep.__init__", defArgs st_Keep_init, defBody st_Keep_init, defScope st_Keep_init, [], []⟩
def d13 : He.DefD := ⟨("Plain", some "__init__"), "__init__", "Plain.__init__", defArgs st_Plain_init, defBody st_Plain_init, defScope st_Plain_init, [], []⟩
def d14 : He.DefD := ⟨("short_one", none), "short_one", "short_one", defArgs st_short_one, defBody st_short_one, defScope st_short_one, [], []⟩
def d15 : He.DefD := ⟨("Cross", some "__init__"), "__init__", "Cross.__init__", defArgs st_Cross_init, defBody st_Cross_init, defScope st_Cross_init, [], []⟩
def d16 : He.DefD := ⟨("Grow", some "__init__"), "__init__", "Grow.__init__", defArgs st_Grow_init, defBody st_Grow_init, defScope st_Grow_init, [], []⟩
def d17 : He.DefD := ⟨("Lean", some "__init__"), "__init__", "Lean.__init__", defArgs st_Lean_init, defBody st_Lean_init, defScope st_Lean_init, [], []⟩
def d18 : He.DefD := ⟨("long_one", none), "long_one", "long_one", defArgs st_long_one, defBody st_long_one, defScope st_long_one, [], []⟩
def d19 : He.DefD := ⟨("stitch", none), "stitch", "stitch", defArgs st_stitch, defBody st_stitch, defScope st_stitch, [], []⟩
def d20 : He.DefD := ⟨("read_mark", none), "read_mark", "read_mark", defArgs st_read_mark, defBody st_read_mark, defScope st_read_mark, [], []⟩
def d21 : He.DefD := ⟨("read_row", none), "read_row", "read_row", defArgs st_read_row, defBody st_read_row, defScope st_read_row, [], []⟩
def d22 : He.DefD := ⟨("read_cast", none), "read_cast", "read_cast", defArgs st_read_cast, defBody st_read_cast, defScope st_read_cast, [], []⟩
def d23 : He.DefD := ⟨("read_chart", none), "read_chart", "read_chart", defArgs st_read_chart, defBody st_read_chart, defScope st_read_chart, [], []⟩
def d24 : He.DefD := ⟨("_law_read", none), "_law_read", "_law_read", defArgs st__law_read, defBody st__law_read, defScope st__law_read, [], []⟩
def d25 : He.DefD := ⟨("_law_class_told", none), "_law_class_told", "_law_class_told", defArgs st__law_class_told, defBody st__law_class_told, defScope st__law_class_told, [], []⟩
def d26 : He.DefD := ⟨("_law_refused", none), "_law_refused", "_law_refused", defArgs st__law_refused, defBody st__law_refused, defScope st__law_refused, [], []⟩
def d27 : He.DefD := ⟨("_law_no_cast", none), "_law_no_cast", "_law_no_cast", defArgs st__law_no_cast, defBody st__law_no_cast, defScope st__law_no_cast, [], []⟩
def d28 : He.DefD := ⟨("_law_no_row", none), "_law_no_row", "_law_no_row", defArgs st__law_no_row, defBody st__law_no_row, defScope st__law_no_row, [], []⟩
def d29 : He.DefD := ⟨("_law_no_chart", none), "_law_no_chart", "_law_no_chart", defArgs st__law_no_chart, defBody st__law_no_chart, defScope st__law_no_chart, [], []⟩
def d30 : He.DefD := ⟨("_law_spoiled", none), "_law_spoiled", "_law_spoiled", defArgs st__law_spoiled, defBody st__law_spoiled, defScope st__law_spoiled, [], []⟩
def d31 : He.DefD := ⟨("_law_cell_at", none), "_law_cell_at", "_law_cell_at", defArgs st__law_cell_at, defBody st__law_cell_at, defScope st__law_cell_at, [], []⟩
def d32 : He.DefD := ⟨("_law_texts", none), "_law_texts", "_law_texts", defArgs st__law_texts, defBody st__law_texts, defScope st__law_texts, [], []⟩
def d33 : He.DefD := ⟨("_law_mark", none), "_law_mark", "_law_mark", defArgs st__law_mark, defBody st__law_mark, defScope st__law_mark, [], []⟩
def d34 : He.DefD := ⟨("_law_rows", none), "_law_rows", "_law_rows", defArgs st__law_rows, defBody st__law_rows, defScope st__law_rows, [], []⟩
def d35 : He.DefD := ⟨("law", none), "law", "law", defArgs st_law, defBody st_law, defScope st_law, [], []⟩
def fn : List He.DefD := [d0, d1, d2, d3, d4, d5, d6, d7, d8, d9, d10, d11, d12, d13, d14, d15, d16, d17, d18, d19, d20, d21, d22, d23, d24, d25, d26, d27, d28, d29, d30, d31, d32, d33, d34, d35]
def fa : List He.Fa := [.cls "Stitch", .noat "Plain" "side", .cls "Plain", .cls "Slip", .cls "Over", .noat "Lean" "side", .noat "Lean" "way", .noat "Lean" "many", .cls "Lean", .noat "Grow" "side", .noat "Grow" "many", .cls "Grow", .noat "Cross" "side", .noat "Cross" "way", .noat "Cross" "second", .noat "Cross" "first", .cls "Cross", .cls "Off", .noat "Keep" "keeper", .cls "Keep", .noat "Fetch" "keeper", .cls "Fetch", .glo "letter_of", .free "str", .free "len", .glo "Fetch", .mkr "Fetch", .glo "Keep", .mkr "Keep", .glo "Off", .glo "Over", .glo "Slip", .glo "Plain", .mkr "Plain", .glo "Cross", .mkr "Cross", .free "int", .glo "Grow", .mkr "Grow", .glo "Lean", .mkr "Lean", .glo "NoStitch", .free "isinstance", .glo "short_one", .glo "long_one", .glo "stitch", .glo "NoChart", .free "reversed", .glo "read_mark", .glo "read_row", .glo "read_cast", .free "list", .free "zip", .meth "Stitch" "mark", .meth "Plain" "mark", .meth "Slip" "mark", .meth "Over" "mark", .meth "Lean" "mark", .meth "Grow" "mark", .meth "Cross" "mark", .meth "Off" "mark", .meth "Keep" "mark", .meth "Fetch" "mark", .glo "Stitch", .free "bool", .free "tuple", .glo "read_chart", .free "ValueError", .glo "NoPlace", .glo "NoName", .glo "NoRow", .glo "Tangle", .glo "NotLying", .glo "Miscount", .glo "TooMany", .glo "NoPattern", .glo "NoSum", .glo "_law_class_told", .glo "StitchError", .glo "_law_no_cast", .glo "_law_no_row", .glo "_law_no_chart", .free "range", .glo "_law_mark", .glo "_law_read", .glo "_law_cell_at", .glo "_law_spoiled", .glo "_law_refused", .glo "_law_texts", .glo "_law_rows", .glo "law"]
def fq : List Fq := [.const "KEEPERS" (.str "wxyz"), .pl "Off", .pl "Over", .pl "Slip", .exc "NoStitch", .rai "NoStitch", .kit "Stitch" (.inr "str") false, .ins "Stitch", .kit "Plain" (.inr "str") false, .ins "Plain", .kit "Slip" (.inr "str") false, .ins "Slip", .kit "Over" (.inr "str") false, .ins "Over", .kit "Lean" (.inr "str") false, .ins "Lean", .kit "Grow" (.inr "str") false, .ins "Grow", .kit "Cross" (.inr "str") false, .ins "Cross", .kit "Off" (.inr "str") false, .ins "Off", .kit "Keep" (.inr "str") false, .ins "Keep", .kit "Fetch" (.inr "str") false, .ins "Fetch", .exc "NoChart", .rai "NoChart", .exm "NoStitch" "NoStitch" true, .exm "NoChart" "NoStitch" false, .const "FIGURES" (.str "0123456789"), .kit "Stitch" (.inr "list") false, .kit "Plain" (.inr "list") false, .kit "Slip" (.inr "list") false, .kit "Over" (.inr "list") false, .kit "Lean" (.inr "list") false, .kit "Grow" (.inr "list") false, .kit "Cross" (.inr "list") false, .kit "Off" (.inr "list") false, .kit "Keep" (.inr "list") false, .kit "Fetch" (.inr "list") false, .kit "Stitch" (.inl "Stitch") true, .kit "Plain" (.inl "Stitch") true, .kit "Slip" (.inl "Stitch") true, .kit "Over" (.inl "Stitch") true, .kit "Lean" (.inl "Stitch") true, .kit "Grow" (.inl "Stitch") true, .kit "Cross" (.inl "Stitch") true, .kit "Off" (.inl "Stitch") true, .kit "Keep" (.inl "Stitch") true, .kit "Fetch" (.inl "Stitch") true, .tyk "NoneType" "Stitch" false, .tyk "bool" "Stitch" false, .tyk "int" "Stitch" false, .tyk "str" "Stitch" false, .tyk "tuple" "Stitch" false, .tyk "list" "Stitch" false, .tyk "dict" "Stitch" false, .kit "Stitch" (.inr "int") false, .kit "Plain" (.inr "int") false, .kit "Slip" (.inr "int") false, .kit "Over" (.inr "int") false, .kit "Lean" (.inr "int") false, .kit "Grow" (.inr "int") false, .kit "Cross" (.inr "int") false, .kit "Off" (.inr "int") false, .kit "Keep" (.inr "int") false, .kit "Fetch" (.inr "int") false, .kit "Stitch" (.inr "bool") false, .kit "Plain" (.inr "bool") false, .kit "Slip" (.inr "bool") false, .kit "Over" (.inr "bool") false, .kit "Lean" (.inr "bool") false, .kit "Grow" (.inr "bool") false, .kit "Cross" (.inr "bool") false, .kit "Off" (.inr "bool") false, .kit "Keep" (.inr "bool") false, .kit "Fetch" (.inr "bool") false, .kit "Stitch" (.inr "tuple") false, .kit "Plain" (.inr "tuple") false, .kit "Slip" (.inr "tuple") false, .kit "Over" (.inr "tuple") false, .kit "Lean" (.inr "tuple") false, .kit "Grow" (.inr "tuple") false, .kit "Cross" (.inr "tuple") false, .kit "Off" (.inr "tuple") false, .kit "Keep" (.inr "tuple") false, .kit "Fetch" (.inr "tuple") false, .kit "NoStitch" (.inl "NoChart") false, .kit "NoChart" (.inl "NoChart") true, .tyk "NoneType" "NoChart" false, .tyk "bool" "NoChart" false, .tyk "int" "NoChart" false, .tyk "str" "NoChart" false, .tyk "tuple" "NoChart" false, .tyk "list" "NoChart" false, .tyk "dict" "NoChart" false, .kit "NoStitch" (.inr "ValueError") true, .kit "NoChart" (.inr "ValueError") true, .kit "NoStitch" (.inl "NoPlace") false, .kit "NoChart" (.inl "NoPlace") false, .tyk "NoneType" "NoPlace" false, .tyk "bool" "NoPlace" false, .tyk "int" "NoPlace" false, .tyk "str" "NoPlace" false, .tyk "tuple" "NoPlace" false, .tyk "list" "NoPlace" false, .tyk "dict" "NoPlace" false, .kit "NoStitch" (.inl "NoName") false, .kit "NoChart" (.inl "NoName") false, .tyk "NoneType" "NoName" false, .tyk "bool" "NoName" false, .tyk "int" "NoName" false, .tyk "str" "NoName" false, .tyk "tuple" "NoName" false, .tyk "list" "NoName" false, .tyk "dict" "NoName" false, .kit "NoStitch" (.inl "NoRow") false, .kit "NoChart" (.inl "NoRow") false, .tyk "NoneType" "NoRow" false, .tyk "bool" "NoRow" false, .tyk "int" "NoRow" false, .tyk "str" "NoRow" false, .tyk "tuple" "NoRow" false, .tyk "list" "NoRow" false, .tyk "dict" "NoRow" false, .kit "NoStitch" (.inl "Tangle") false, .kit "NoChart" (.inl "Tangle") false, .tyk "NoneType" "Tangle" false, .tyk "bool" "Tangle" false, .tyk "int" "Tangle" false, .tyk "str" "Tangle" false, .tyk "tuple" "Tangle" false, .tyk "list" "Tangle" false, .tyk "dict" "Tangle" false, .kit "NoStitch" (.inl "NotLying") false, .kit "NoChart" (.inl "NotLying") false, .tyk "NoneType" "NotLying" false, .tyk "bool" "NotLying" false, .tyk "int" "NotLying" false, .tyk "str" "NotLying" false, .tyk "tuple" "NotLying" false, .tyk "list" "NotLying" false, .tyk "dict" "NotLying" false, .kit "NoStitch" (.inl "Miscount") false, .kit "NoChart" (.inl "Miscount") false, .tyk "NoneType" "Miscount" false, .tyk "bool" "Miscount" false, .tyk "int" "Miscount" false, .tyk "str" "Miscount" false, .tyk "tuple" "Miscount" false, .tyk "list" "Miscount" false, .tyk "dict" "Miscount" false, .kit "NoStitch" (.inl "TooMany") false, .kit "NoChart" (.inl "TooMany") false, .tyk "NoneType" "TooMany" false, .tyk "bool" "TooMany" false, .tyk "int" "TooMany" false, .tyk "str" "TooMany" false, .tyk "tuple" "TooMany" false, .tyk "list" "TooMany" false, .tyk "dict" "TooMany" false, .kit "NoStitch" (.inl "NoPattern") false, .kit "NoChart" (.inl "NoPattern") false, .tyk "NoneType" "NoPattern" false, .tyk "bool" "NoPattern" false, .tyk "int" "NoPattern" false, .tyk "str" "NoPattern" false, .tyk "tuple" "NoPattern" false, .tyk "list" "NoPattern" false, .tyk "dict" "NoPattern" false, .kit "NoStitch" (.inl "NoSum") false, .kit "NoChart" (.inl "NoSum") false, .tyk "NoneType" "NoSum" false, .tyk "bool" "NoSum" false, .tyk "int" "NoSum" false, .tyk "str" "NoSum" false, .tyk "tuple" "NoSum" false, .tyk "list" "NoSum" false, .tyk "dict" "NoSum" false, .kit "NoStitch" (.inl "NoStitch") true, .kit "NoChart" (.inl "NoStitch") false, .tyk "NoneType" "NoStitch" false, .tyk "bool" "NoStitch" false, .tyk "int" "NoStitch" false, .tyk "str" "NoStitch" false, .tyk "tuple" "NoStitch" false, .tyk "list" "NoStitch" false, .tyk "dict" "NoStitch" false, .exm "NoStitch" "StitchError" true, .exm "NoChart" "StitchError" true]
abbrev R : PySem.W.OpenRow := PySem.W.OpenLaw.row PySem.Challenge.rw_stitchroom_k41_charts_read
abbrev hk : PySem.W.Hook := hookM 6 fa fn (fun K => fq.all fun f => f.ok K)
def ob (s : PySem.W.SharedT) : Bool × AlM := obsM 6 fa fn (fun K => fq.all fun f => f.ok K) (HandSHeadRun.getT s)
theorem ob_eq (s : PySem.W.SharedT) : ob s = hk.obs s.abs := obsM_eq (HandSHeadRun.getT_eq s)
def loose0 : List Str := ["_wall", "StitchError", "NoStitch", "NoSum", "NoPattern", "TooMany", "Miscount", "NotLying", "NoChart", "Tangle", "NoRow", "NoName"]
def loose1 : List Str := ["NoPlace", "letter_of", "Stitch", "Plain", "Slip", "Over", "Lean", "Grow", "Cross", "Off", "Keep", "Fetch"]
def loose2 : List Str := ["KEEPERS", "short_one", "long_one", "stitch", "FIGURES", "read_cast", "read_mark", "read_row", "read_chart", "_law_cell_at", "_law_mark", "_law_rows"]
def loose3 : List Str := ["_law_texts", "_law_no_row", "_law_no_cast", "_law_no_chart"]
def loose4 : List Str := ["_law_spoiled", "_law_class_told", "_law_refused", "_law_read"]
def loose : List Str := loose0 ++ loose1 ++ loose2 ++ loose3 ++ loose4
theorem run (w : World) : HandSHeadRun.RunEq R (PySem.W.view R.prog [49]) hk ob 100000 loose w := by
  intro os
  kernel_rfl
end Kn
namespace Mx
open PySem L2
/-- whether tuples of the written part are met (then no dict with tuples for keys is) -/
def ktB : Bool := false
mutual
/-- equality, to be run -/
def D.beq : D → D → Bool
  | .non, .non => true
  | .bl a, .bl b => a == b
  | .int i, .int j => decide (i = j)
  | .str x, .str y => decide (x = y)
  | .tup a, .tup b => D.beqs a b
  | .lst a, .lst b => D.beqs a b
  | .frz a, .frz b => D.beqs a b
  | .obj c a, .obj d b => decide (c = d) && D.beqs a b
  | .exv c a, .exv d b => decide (c = d) && D.beqs a b
  | .ref n, .ref m => decide (n = m)
  | .twn a x, .twn b y => decide (a = b) && D.beqs x y
  | _, _ => false
def D.beqs : List D → List D → Bool
  | [], [] => true
  | x :: xs, y :: ys => D.beq x y && D.beqs xs ys
  | _, _ => false
end
mutual
theorem D.beq_ok : ∀ {a b : D}, D.beq a b = true → a = b
  | .non, b, h => by cases b <;> first | rfl | (simp [D.beq] at h)
  | .bl x, b, h => by cases b <;> first | (simp [D.beq] at h; rw [h]) | (simp [D.beq] at h)
  | .int x, b, h => by cases b <;> first | (simp [D.beq] at h; rw [h]) | (simp [D.beq] at h)
  | .str x, b, h => by cases b <;> first | (simp [D.beq] at h; rw [h]) | (simp [D.beq] at h)
  | .ref x, b, h => by cases b <;> first | (simp [D.beq] at h; rw [h]) | (simp [D.beq] at h)
  | .tup x, b, h => by cases b <;> first | (rw [D.beq] at h; rw [D.beqs_ok h]) | (simp [D.beq] at h)
  | .lst x, b, h => by cases b <;> first | (rw [D.beq] at h; rw [D.beqs_ok h]) | (simp [D.beq] at h)
  | .frz x, b, h => by cases b <;> first | (rw [D.beq] at h; rw [D.beqs_ok h]) | (simp [D.beq] at h)
  | .obj c x, b, h => by
    cases b <;> first | (simp [D.beq] at h; done) | skip
    rw [D.beq, Bool.and_eq_true] at h
    rw [of_decide_eq_true h.1, D.beqs_ok h.2]
  | .exv c x, b, h => by
    cases b <;> first | (simp [D.beq] at h; done) | skip
    rw [D.beq, Bool.and_eq_true] at h
    rw [of_decide_eq_true h.1, D.beqs_ok h.2]
  | .twn c x, b, h => by
    cases b <;> first | (simp [D.beq] at h; done) | skip
    rw [D.beq, Bool.and_eq_true] at h
    rw [of_decide_eq_true h.1, D.beqs_ok h.2]
theorem D.beqs_ok : ∀ {a b : List D}, D.beqs a b = true → a = b
  | [], b, h => by cases b <;> first | rfl | (simp [D.beqs] at h)
  | x :: xs, b, h => by
    cases b <;> first | (simp [D.beqs] at h; done) | skip
    rw [D.beqs, Bool.and_eq_true] at h
    rw [D.beq_ok h.1, D.beqs_ok h.2]
end
mutual
theorem D.beq_refl : ∀ (a : D), D.beq a a = true
  | .non => rfl
  | .bl x => by simp [D.beq]
  | .int x => by simp [D.beq]
  | .str x => by simp [D.beq]
  | .ref x => by simp [D.beq]
  | .tup x => by rw [D.beq]; exact D.beqs_refl x
  | .lst x => by rw [D.beq]; exact D.beqs_refl x
  | .frz x => by rw [D.beq]; exact D.beqs_refl x
  | .obj c x => by rw [D.beq, D.beqs_refl x]; simp
  | .exv c x => by rw [D.beq, D.beqs_refl x]; simp
  | .twn c x => by rw [D.beq, D.beqs_refl x]; simp
theorem D.beqs_refl : ∀ (a : List D), D.beqs a a = true
  | [] => rfl
  | x :: xs => by rw [D.beqs, D.beq_refl x, D.beqs_refl xs]; rfl
end
def deqO (o : Option (List D)) (ds : List D) : Bool := match o with
  | some es => D.beqs es ds
  | none => false
theorem deqO_ok {o : Option (List D)} {ds : List D} (h : deqO o ds = true) : o = some ds := by
  cases o with
  | none => cases h
  | some es => rw [D.beqs_ok (show D.beqs es ds = true from h)]
@[simp] theorem deqO_self (ds : List D) : deqO (some ds) ds = true := D.beqs_refl ds
inductive Cell where
  | lst (ds : List D) | dK (kvs : List (Key × D)) | dT (kvs : List (List Key × D)) | obj (c : Nat) (ds : List D) | fK (kvs : List (Key × D)) | fT (kvs : List (List Key × D))
abbrev Sto := List Cell
def Cell.beq : Cell → Cell → Bool
  | .lst a, .lst b => D.beqs a b
  | .dK a, .dK b => decide (a.map (·.1) = b.map (·.1)) && D.beqs (a.map (·.2)) (b.map (·.2))
  | .dT a, .dT b => decide (a.map (·.1) = b.map (·.1)) && D.beqs (a.map (·.2)) (b.map (·.2))
  | .obj c a, .obj d b => decide (c = d) && D.beqs a b
  | .fK a, .fK b => decide (a.map (·.1) = b.map (·.1)) && D.beqs (a.map (·.2)) (b.map (·.2))
  | .fT a, .fT b => decide (a.map (·.1) = b.map (·.1)) && D.beqs (a.map (·.2)) (b.map (·.2))
  | _, _ => false
theorem maps_eq {α β : Type} : ∀ {a b : List (α × β)}, a.map (·.1) = b.map (·.1) → a.map (·.2) = b.map (·.2) → a = b
  | [], [], _, _ => rfl
  | [], _ :: _, h, _ => by cases h
  | _ :: _, [], h, _ => by cases h
  | (x, y) :: a, (z, w) :: b, h1, h2 => by
    simp only [List.map_cons, List.cons.injEq] at h1 h2
    rw [h1.1, h2.1, maps_eq h1.2 h2.2]
theorem Cell.beq_ok {a b : Cell} (h : Cell.beq a b = true) : a = b := by
  cases a <;> cases b <;> first | (cases h; done) | skip
  · rw [D.beqs_ok (show D.beqs _ _ = true from h)]
  · have h' := Bool.and_eq_true_iff.mp (show (decide (_ = _) && D.beqs _ _) = true from h)
    rw [maps_eq (of_decide_eq_true h'.1) (D.beqs_ok h'.2)]
  · have h' := Bool.and_eq_true_iff.mp (show (decide (_ = _) && D.beqs _ _) = true from h)
    rw [maps_eq (of_decide_eq_true h'.1) (D.beqs_ok h'.2)]
  · have h' := Bool.and_eq_true_iff.mp (show (decide (_ = _) && D.beqs _ _) = true from h)
    rw [of_decide_eq_true h'.1, D.beqs_ok h'.2]
  · have h' := Bool.and_eq_true_iff.mp (show (decide (_ = _) && D.beqs _ _) = true from h)
    rw [maps_eq (of_decide_eq_true h'.1) (D.beqs_ok h'.2)]
  · have h' := Bool.and_eq_true_iff.mp (show (decide (_ = _) && D.beqs _ _) = true from h)
    rw [maps_eq (of_decide_eq_true h'.1) (D.beqs_ok h'.2)]
theorem Cell.beq_refl (a : Cell) : Cell.beq a a = true := by
  cases a <;> simp [Cell.beq, D.beqs_refl]
def Sto.beq : Sto → Sto → Bool
  | [], [] => true
  | x :: xs, y :: ys => Cell.beq x y && Sto.beq xs ys
  | _, _ => false
theorem Sto.beq_ok : ∀ {a b : Sto}, Sto.beq a b = true → a = b
  | [], [], _ => rfl
  | [], _ :: _, h => by cases h
  | _ :: _, [], h => by cases h
  | x :: xs, y :: ys, h => by
    have h' := Bool.and_eq_true_iff.mp (show (Cell.beq x y && Sto.beq xs ys) = true from h)
    rw [Cell.beq_ok h'.1, Sto.beq_ok h'.2]
@[simp] theorem Sto.beq_refl : ∀ (a : Sto), Sto.beq a a = true
  | [] => rfl
  | x :: xs => by rw [Sto.beq, Cell.beq_refl, Sto.beq_refl xs]; rfl
/-- the written part, the classes' addresses, their fields -/
structure G where
  K : PySem.W.Frag
  ca : Nat → Addr
  cf : Nat → List Str
  F : List Addr := []
/-- the same, other addresses left aside -/
abbrev G.wF (g : G) (F : List Addr) : G := { g with F := F }
/-- no cell, not left aside -/
def Out (g : G) (al : List Addr) (p : Addr) : Prop := p ∉ al ∧ p ∉ g.F
def KT (K : PySem.W.Frag) (a : Addr) (xs : List V) : Prop :=
  ∃ (o : Obj) (its : Array Value) (n : Nat), K.lookup a = some o ∧ o.cls = .type "tuple" ∧ o.data = .seq its n ∧ its.size ≤ sizeLine ∧ Vals xs its.toList
def KL (K : PySem.W.Frag) (a : Addr) (xs : List V) : Prop :=
  ∃ (o : Obj) (its : Array Value) (n : Nat), K.lookup a = some o ∧ o.cls = .type "list" ∧ o.dict = none ∧ o.data = .seq its n ∧ its.size ≤ sizeLine ∧ Vals xs its.toList
/-- an exception as a value: at a, of a class, with an own dict or none -/
def exV (cls : Value) (d : Option Addr) (a : Addr) : HO := .ext fun h => ∃ (oe : Obj) (vs : Array Value), h.get? a = some oe ∧ Zc cls d oe ∧ oe.data = .fields vs
mutual
inductive Rep (g : G) (H : Hp) (al : List Addr) : V → D → Prop
  | non : Rep g H al .non .non
  | bl (b : Bool) : Rep g H al (.bl b) (.bl b)
  | int (i : Int) : Rep g H al (.int i) (.int i)
  | str (x : Str) : Rep g H al (.str x) (.str x)
  | ref {n : Nat} {p : Addr} : al[n]? = some p → Rep g H al (.ref p) (.ref n)
  | tupH {p : Addr} {vs : List V} {ds : List D} : H p = some (.tup vs) → Out g al p → Reps g H al vs ds → Rep g H al (.ref p) (.tup ds)
  | tupK {p : Addr} {vs : List V} {ds : List D} : ktB = true → KT g.K p vs → Reps g H al vs ds → Rep g H al (.ref p) (.tup ds)
  | lst {p : Addr} {vs : List V} {ds : List D} : H p = some (.lst vs) → Out g al p → Reps g H al vs ds → Rep g H al (.ref p) (.lst ds)
  | twn {p : Addr} {vs : List V} {ds : List D} : H p = some (.lst vs) → Out g al p → Reps g H al vs ds → Rep g H al (.ref p) (.twn vs ds)
  | frz {p : Addr} {o : Obj} {vs : List V} {ds : List D} : H p = some (.frz o (.lst vs)) → Out g al p → Reps g H al vs ds → Rep g H al (.ref p) (.frz ds)
  | frzK {p : Addr} {vs : List V} {ds : List D} : KL g.K p vs → Reps g H al vs ds → Rep g H al (.ref p) (.frz ds)
  | obj {p dx : Addr} {c : Nat} {vs : List V} {ds : List D} : H p = some (.ins (g.ca c) dx ((g.cf c).zip vs)) → Out g al p → vs.length ≤ (g.cf c).length → Reps g H al vs ds → Rep g H al (.ref p) (.obj c ds)
  | exv0 {p : Addr} {c : Nat} : H p = some (exV (.ref (g.ca c)) none p) → Out g al p → Rep g H al (.ref p) (.exv c [])
  | exv1 {p dx : Addr} {c : Nat} {vs : List V} {ds : List D} : H p = some (exV (.ref (g.ca c)) (some dx) p) → Out g al p → H dx = some (.xd ((g.cf c).zip vs)) → Out g al dx → vs.length ≤ (g.cf c).length → Reps g H al vs ds → Rep g H al (.ref p) (.exv c ds)
inductive Reps (g : G) (H : Hp) (al : List Addr) : List V → List D → Prop
  | nil : Reps g H al [] []
  | cons {v : V} {d : D} {vs : List V} {ds : List D} : Rep g H al v d → Reps g H al vs ds → Reps g H al (v :: vs) (d :: ds)
end
/-- what goes on from (al, H) to (al', H'): new cells, all that is no cell stays -/
structure Tr (g : G) (al : List Addr) (H : Hp) (al' : List Addr) (H' : Hp) : Prop where
  ex : ∃ be, al' = al ++ be ∧ (∀ a ∈ be, H a = none) ∧ ∀ a ∈ be, a ∉ g.F
  keep : ∀ a o, a ∉ al → H a = some o → H' a = some o
  dom : ∀ a, H a ≠ none → H' a ≠ none
  fz : ∀ a o u, H a = some (.frz o u) → H' a = some (.frz o u)
variable {g : G} {H H1 H' H2 : Hp} {al al1 al' al2 : List Addr} {s s1 s' : Sto}
theorem Tr.refl : Tr g al H al H := ⟨⟨[], by simp, (fun _ h => nomatch h), (fun _ h => nomatch h)⟩, fun _ _ _ h => h, fun _ h => h, fun _ _ _ h => h⟩
theorem Tr.nin (t : Tr g al H al' H') {a : Addr} {o : HO} (h : H a = some o) (n : a ∉ al) : a ∉ al' := by
  obtain ⟨be, e, f, _⟩ := t.ex
  subst e
  intro m
  rcases List.mem_append.mp m with m | m
  · exact n m
  · rw [f a m] at h; cases h
theorem Tr.notin (t : Tr g al H al' H') {a : Addr} {o : HO} (h : H a = some o) (n : Out g al a) : Out g al' a := ⟨t.nin h n.1, n.2⟩
theorem Tr.trans (t : Tr g al H al1 H1) (u : Tr g al1 H1 al2 H2) : Tr g al H al2 H2 := by
  refine ⟨?_, fun a o n h => u.keep a o (t.nin h n) (t.keep a o n h), fun a h => u.dom a (t.dom a h), fun a o w h => u.fz a o w (t.fz a o w h)⟩
  obtain ⟨be, rfl, f, f2⟩ := t.ex
  obtain ⟨ga, rfl, f', f2'⟩ := u.ex
  refine ⟨be ++ ga, by simp, fun a m => ?_, fun a m => ?_⟩
  · rcases List.mem_append.mp m with m | m
    · exact f a m
    · cases e : H a with
      | none => rfl
      | some o => exact absurd (f' a m) (t.dom a (by rw [e]; intro z; cases z))
  · rcases List.mem_append.mp m with m | m
    · exact f2 a m
    · exact f2' a m
theorem Tr.ix (t : Tr g al H al' H') {n : Nat} {p : Addr} (h : al[n]? = some p) : al'[n]? = some p := by
  obtain ⟨be, rfl, _, _⟩ := t.ex
  rw [List.getElem?_append_left (List.getElem?_eq_some_iff.mp h).1]; exact h
mutual
theorem Rep.tr (t : Tr g al H al' H') : ∀ {v : V} {d : D}, Rep g H al v d → Rep g H' al' v d
  | _, _, .non => .non
  | _, _, .bl b => .bl b
  | _, _, .int i => .int i
  | _, _, .str x => .str x
  | _, _, .ref h => .ref (t.ix h)
  | _, _, .tupH h n r => .tupH (t.keep _ _ n.1 h) (t.notin h n) (Reps.tr t r)
  | _, _, .tupK q h r => .tupK q h (Reps.tr t r)
  | _, _, .lst h n r => .lst (t.keep _ _ n.1 h) (t.notin h n) (Reps.tr t r)
  | _, _, .twn h n r => .twn (t.keep _ _ n.1 h) (t.notin h n) (Reps.tr t r)
  | _, _, .frz h n r => .frz (t.keep _ _ n.1 h) (t.notin h n) (Reps.tr t r)
  | _, _, .frzK h r => .frzK h (Reps.tr t r)
  | _, _, .obj h n l r => .obj (t.keep _ _ n.1 h) (t.notin h n) l (Reps.tr t r)
  | _, _, .exv0 h n => .exv0 (t.keep _ _ n.1 h) (t.notin h n)
  | _, _, .exv1 h n hx ox l r => .exv1 (t.keep _ _ n.1 h) (t.notin h n) (t.keep _ _ ox.1 hx) (t.notin hx ox) l (Reps.tr t r)
theorem Reps.tr (t : Tr g al H al' H') : ∀ {vs : List V} {ds : List D}, Reps g H al vs ds → Reps g H' al' vs ds
  | _, _, .nil => .nil
  | _, _, .cons h r => .cons (Rep.tr t h) (Reps.tr t r)
end
theorem Reps.length : ∀ {vs : List V} {ds : List D}, Reps g H al vs ds → vs.length = ds.length
  | _, _, .nil => rfl
  | _, _, .cons _ r => by simp [Reps.length r]
theorem Reps.get : ∀ {vs : List V} {ds : List D} {i : Nat} {d : D}, Reps g H al vs ds → ds[i]? = some d → ∃ v, vs[i]? = some v ∧ Rep g H al v d
  | _, _, _, _, .nil, e => by simp at e
  | _, _, 0, _, .cons h _, e => by simp at e; subst e; exact ⟨_, rfl, h⟩
  | _, _, i + 1, _, .cons _ r, e => by
    obtain ⟨v, h1, h2⟩ := Reps.get (i := i) r (by simpa using e)
    exact ⟨v, by simpa using h1, h2⟩
theorem Reps.getV : ∀ {vs : List V} {ds : List D} {i : Nat} {v : V}, Reps g H al vs ds → vs[i]? = some v → ∃ d, ds[i]? = some d ∧ Rep g H al v d
  | _, _, _, _, .nil, e => by simp at e
  | _, _, 0, _, .cons h _, e => by simp at e; subst e; exact ⟨_, rfl, h⟩
  | _, _, i + 1, _, .cons _ r, e => by
    obtain ⟨v, h1, h2⟩ := Reps.getV (i := i) r (by simpa using e)
    exact ⟨v, by simpa using h1, h2⟩
theorem Reps.set {x : V} {d : D} (h : Rep g H al x d) : ∀ {vs : List V} {ds : List D} (i : Nat), Reps g H al vs ds → Reps g H al (vs.set i x) (ds.set i d)
  | _, _, _, .nil => .nil
  | _, _, 0, .cons _ r => .cons h r
  | _, _, i + 1, .cons q r => .cons q (Reps.set h i r)
theorem Reps.append : ∀ {vs ws : List V} {ds es : List D}, Reps g H al vs ds → Reps g H al ws es → Reps g H al (vs ++ ws) (ds ++ es)
  | _, _, _, _, .nil, q => q
  | _, _, _, _, .cons h r, q => .cons h (Reps.append r q)
theorem Reps.take : ∀ {vs : List V} {ds : List D} (n : Nat), Reps g H al vs ds → Reps g H al (vs.take n) (ds.take n)
  | _, _, 0, _ => .nil
  | _, _, _ + 1, .nil => .nil
  | _, _, n + 1, .cons h r => .cons h (Reps.take n r)
theorem Reps.drop : ∀ {vs : List V} {ds : List D} (n : Nat), Reps g H al vs ds → Reps g H al (vs.drop n) (ds.drop n)
  | _, _, 0, r => r
  | _, _, _ + 1, .nil => .nil
  | _, _, n + 1, .cons _ r => Reps.drop n r
theorem Reps.reverse : ∀ {vs : List V} {ds : List D}, Reps g H al vs ds → Reps g H al vs.reverse ds.reverse
  | _, _, .nil => .nil
  | _, _, .cons h r => by
    rw [List.reverse_cons, List.reverse_cons]
    exact Reps.append (Reps.reverse r) (.cons h .nil)
theorem Reps.ints {is : List Int} : Reps g H al (is.map V.int) (is.map D.int) := by
  induction is with
  | nil => exact .nil
  | cons i r ih => exact .cons (.int i) ih
/-- what a value is, by its tree -/
theorem Rep.int_inv {v : V} {i : Int} (h : Rep g H al v (.int i)) : v = .int i := by cases h; rfl
theorem Rep.bl_inv {v : V} {b : Bool} (h : Rep g H al v (.bl b)) : v = .bl b := by cases h; rfl
theorem Rep.str_inv {v : V} {x : Str} (h : Rep g H al v (.str x)) : v = .str x := by cases h; rfl
theorem Rep.non_inv {v : V} (h : Rep g H al v .non) : v = .non := by cases h; rfl
def CellOk (g : G) (H : Hp) (al : List Addr) (p : Addr) : Cell → Prop
  | .lst ds => ∃ vs, H p = some (.lst vs) ∧ Reps g H al vs ds
  | .dK kvs => ∃ kv : List (Key × V), H p = some (.dK kv) ∧ kv.map (·.1) = kvs.map (·.1) ∧ Reps g H al (kv.map (·.2)) (kvs.map (·.2))
  | .dT kvs => ∃ kv : List (List Key × V), H p = some (.dT kv) ∧ kv.map (·.1) = kvs.map (·.1) ∧ Reps g H al (kv.map (·.2)) (kvs.map (·.2))
  | .obj c ds => ∃ dx vs, H p = some (.ins (g.ca c) dx ((g.cf c).zip vs)) ∧ vs.length ≤ (g.cf c).length ∧ Reps g H al vs ds
  | .fK kvs => ∃ (o : Obj) (kv : List (Key × V)), H p = some (.frz o (.dK kv)) ∧ kv.map (·.1) = kvs.map (·.1) ∧ Reps g H al (kv.map (·.2)) (kvs.map (·.2))
  | .fT kvs => ∃ (o : Obj) (kv : List (List Key × V)), H p = some (.frz o (.dT kv)) ∧ kv.map (·.1) = kvs.map (·.1) ∧ Reps g H al (kv.map (·.2)) (kvs.map (·.2))
structure StOk (g : G) (H : Hp) (al : List Addr) (s : Sto) : Prop where
  len : al.length = s.length
  nd : al.Nodup
  fs : ∀ a ∈ g.F, ∃ o, H a = some o ∧ ∀ xs, o ≠ .tup xs
  apart : ∀ a ∈ al, a ∉ g.F
  cell : ∀ (n : Nat) (p : Addr) (c : Cell), al[n]? = some p → s[n]? = some c → CellOk g H al p c
theorem CellOk.some {p : Addr} {c : Cell} (h : CellOk g H al p c) : ∃ o, H p = Option.some o ∧ ∀ xs, o ≠ .tup xs := by
  cases c with
  | lst ds => obtain ⟨_, e, _⟩ := h; exact ⟨_, e, fun _ z => nomatch z⟩
  | dK ds => obtain ⟨_, e, _⟩ := h; exact ⟨_, e, fun _ z => nomatch z⟩
  | dT ds => obtain ⟨_, e, _⟩ := h; exact ⟨_, e, fun _ z => nomatch z⟩
  | obj c ds => obtain ⟨_, _, e, _⟩ := h; exact ⟨_, e, fun _ z => nomatch z⟩
  | fK ds => obtain ⟨_, _, e, _⟩ := h; exact ⟨_, e, fun _ z => nomatch z⟩
  | fT ds => obtain ⟨_, _, e, _⟩ := h; exact ⟨_, e, fun _ z => nomatch z⟩
theorem StOk.there (h : StOk g H al s) {a : Addr} (m : a ∈ al) : ∃ o, H a = some o ∧ ∀ xs, o ≠ .tup xs := by
  obtain ⟨n, e⟩ := List.getElem?_of_mem m
  have hn : n < s.length := by rw [← h.len]; exact (List.getElem?_eq_some_iff.mp e).1
  exact (h.cell n a s[n] e (List.getElem?_eq_some_iff.mpr ⟨hn, rfl⟩)).some
theorem StOk.notin (h : StOk g H al s) {a : Addr} (e : H a = none) : Out g al a := by
  refine ⟨fun m => ?_, fun m => ?_⟩
  · obtain ⟨o, q, _⟩ := h.there m
    rw [e] at q; cases q
  · obtain ⟨o, q, _⟩ := h.fs a m
    rw [e] at q; cases q
/-- all that was tracked stays -/
theorem Tr.same (k : ∀ a o, H a = some o → H' a = some o) : Tr g al H al H' :=
  ⟨⟨[], by simp, (fun _ z => nomatch z), (fun _ z => nomatch z)⟩, fun a o _ e => k a o e, (fun a m => by
    cases e : H a with
    | none => exact absurd e m
    | some o => rw [k a o e]; exact fun z => nomatch z), fun a o u e => k a _ e⟩
theorem CellOk.map {p : Addr} {c : Cell} (h : CellOk g H al p c) (t : Tr g al H al' H') (k : ∀ o, H p = Option.some o → H' p = Option.some o) : CellOk g H' al' p c := by
  cases c with
  | lst ds => obtain ⟨vs, e, r⟩ := h; exact ⟨vs, k _ e, r.tr t⟩
  | dK ds => obtain ⟨vs, e, e', r⟩ := h; exact ⟨vs, k _ e, e', r.tr t⟩
  | dT ds => obtain ⟨vs, e, e', r⟩ := h; exact ⟨vs, k _ e, e', r.tr t⟩
  | obj c ds => obtain ⟨dx, vs, e, l, r⟩ := h; exact ⟨dx, vs, k _ e, l, r.tr t⟩
  | fK ds => obtain ⟨o, vs, e, e', r⟩ := h; exact ⟨o, vs, k _ e, e', r.tr t⟩
  | fT ds => obtain ⟨o, vs, e, e', r⟩ := h; exact ⟨o, vs, k _ e, e', r.tr t⟩
mutual
theorem Rep.out (k : ∀ a o, a ∉ al → H a = some o → H' a = some o) : ∀ {v : V} {d : D}, Rep g H al v d → Rep g H' al v d
  | _, _, .non => .non
  | _, _, .bl b => .bl b
  | _, _, .int i => .int i
  | _, _, .str x => .str x
  | _, _, .ref e => .ref e
  | _, _, .tupH h n r => .tupH (k _ _ n.1 h) n (Reps.out k r)
  | _, _, .tupK z h r => .tupK z h (Reps.out k r)
  | _, _, .lst h n r => .lst (k _ _ n.1 h) n (Reps.out k r)
  | _, _, .twn h n r => .twn (k _ _ n.1 h) n (Reps.out k r)
  | _, _, .frz h n r => .frz (k _ _ n.1 h) n (Reps.out k r)
  | _, _, .frzK h r => .frzK h (Reps.out k r)
  | _, _, .obj h n l r => .obj (k _ _ n.1 h) n l (Reps.out k r)
  | _, _, .exv0 h n => .exv0 (k _ _ n.1 h) n
  | _, _, .exv1 h n hx ox l r => .exv1 (k _ _ n.1 h) n (k _ _ ox.1 hx) ox l (Reps.out k r)
theorem Reps.out (k : ∀ a o, a ∉ al → H a = some o → H' a = some o) : ∀ {vs : List V} {ds : List D}, Reps g H al vs ds → Reps g H' al vs ds
  | _, _, .nil => .nil
  | _, _, .cons h r => .cons (Rep.out k h) (Reps.out k r)
end
theorem CellOk.out {p : Addr} {c : Cell} (h : CellOk g H al p c) (t : ∀ a o, a ∉ al → H a = Option.some o → H' a = Option.some o) (k : ∀ o, H p = Option.some o → H' p = Option.some o) : CellOk g H' al p c := by
  cases c with
  | lst ds => obtain ⟨vs, e, r⟩ := h; exact ⟨vs, k _ e, r.out t⟩
  | dK ds => obtain ⟨vs, e, e', r⟩ := h; exact ⟨vs, k _ e, e', r.out t⟩
  | dT ds => obtain ⟨vs, e, e', r⟩ := h; exact ⟨vs, k _ e, e', r.out t⟩
  | obj c ds => obtain ⟨dx, vs, e, l, r⟩ := h; exact ⟨dx, vs, k _ e, l, r.out t⟩
  | fK ds => obtain ⟨o, vs, e, e', r⟩ := h; exact ⟨o, vs, k _ e, e', r.out t⟩
  | fT ds => obtain ⟨o, vs, e, e', r⟩ := h; exact ⟨o, vs, k _ e, e', r.out t⟩
theorem StOk.same (h : StOk g H al s) (k : ∀ a o, H a = some o → H' a = some o) : StOk g H' al s :=
  ⟨h.len, h.nd, fun a m => let ⟨o, e, n⟩ := h.fs a m; ⟨o, k _ _ e, n⟩, h.apart, fun n p c e1 e2 => CellOk.map (h.cell n p c e1 e2) (.same k) (k p)⟩
theorem upd_new {p : Addr} {o : HO} (n : H p = none) : ∀ a u, H a = some u → upd H p o a = some u := fun a u e => by
  rw [upd_ne (ne_of_none e n)]; exact e
/-- a cell is written -/
theorem upd_out {n : Nat} {p : Addr} {o : HO} (hp : al[n]? = some p) : ∀ a u, a ∉ al → H a = some u → upd H p o a = some u := fun a u na e => by
  have nz : a ≠ p := fun z => na (by rw [z]; exact List.mem_of_getElem? hp)
  rw [upd_ne nz]; exact e
theorem Tr.write {n : Nat} {p : Addr} {o q : HO} (hp : al[n]? = some p) (hq : H p = some q) (nf : ∀ o u, q ≠ .frz o u) : Tr g al H al (upd H p o) := by
  refine ⟨⟨[], by simp, (fun _ z => nomatch z), (fun _ z => nomatch z)⟩, fun a u na e => ?_, fun a e => ?_, fun a o u w => ?_⟩
  · have nz : a ≠ p := fun z => na (by rw [z]; exact List.mem_of_getElem? hp)
    rw [upd_ne nz]; exact e
  · by_cases q : a = p
    · subst q; rw [upd_same]; intro z; cases z
    · rw [upd_ne q]; exact e
  · rename_i w
    by_cases z : a = p
    · subst z; rw [hq] at w; cases w; exact absurd rfl (nf _ _)
    · rw [upd_ne z]; exact w
theorem StOk.write (h : StOk g H al s) {n : Nat} {p : Addr} {o : HO} {c : Cell} (hp : al[n]? = some p) (hc : CellOk g (upd H p o) al p c) : StOk g (upd H p o) al (s.set n c) := by
  refine ⟨by simp [h.len], h.nd, fun a m => ?_, h.apart, fun m q d e1 e2 => ?_⟩
  · obtain ⟨u, e, nt⟩ := h.fs a m
    by_cases q : a = p
    · exact absurd m (h.apart a (by rw [q]; exact List.mem_of_getElem? hp))
    · exact ⟨u, by rw [upd_ne q]; exact e, nt⟩
  · by_cases hm : m = n
    · subst hm
      rw [hp] at e1; cases e1
      have hn : m < s.length := by rw [← h.len]; exact (List.getElem?_eq_some_iff.mp hp).1
      rw [List.getElem?_set_self hn] at e2; cases e2
      exact hc
    · rw [List.getElem?_set_ne (Ne.symm hm)] at e2
      have nq : q ≠ p := by
        rintro rfl
        obtain ⟨h1, x1⟩ := List.getElem?_eq_some_iff.mp e1
        obtain ⟨h2, x2⟩ := List.getElem?_eq_some_iff.mp hp
        exact hm ((List.getElem_inj h.nd).mp (x1.trans x2.symm))
      exact CellOk.out (h.cell m q d e1 e2) (upd_out hp) fun o e => (upd_ne nq).trans e
/-- a cell is made -/
theorem Tr.alloc (st : StOk g H al s) {p : Addr} {o : HO} (n : H p = none) : Tr g al H (al ++ [p]) (upd H p o) := by
  refine ⟨⟨[p], rfl, (fun a m => by simp at m; subst m; exact n), (fun a m => by simp at m; subst m; exact (st.notin n).2)⟩, fun a u _ e => upd_new n a u e, fun a e => ?_, fun a o u e => upd_new n a _ e⟩
  cases q : H a with
  | none => exact absurd q e
  | some u => rw [upd_new n a u q]; intro z; cases z
theorem StOk.alloc (h : StOk g H al s) {p : Addr} {o : HO} {c : Cell} (n : H p = none) (hc : CellOk g (upd H p o) (al ++ [p]) p c) : StOk g (upd H p o) (al ++ [p]) (s ++ [c]) := by
  have t : Tr g al H (al ++ [p]) (upd H p o) := .alloc h n
  have np : Out g al p := h.notin n
  refine ⟨by simp [h.len], List.nodup_append.mpr ⟨h.nd, by simp, fun a ha b hb e => by simp at hb; subst hb; subst e; exact np.1 ha⟩, fun a m => ?_, fun a m => ?_, fun m q d e1 e2 => ?_⟩
  · obtain ⟨u, e, nt⟩ := h.fs a m
    exact ⟨u, upd_new n _ _ e, nt⟩
  · rcases List.mem_append.mp m with m | m
    · exact h.apart a m
    · simp at m; subst m; exact np.2
  · by_cases hm : m < al.length
    · rw [List.getElem?_append_left hm] at e1
      rw [List.getElem?_append_left (by rw [← h.len]; exact hm)] at e2
      exact CellOk.map (h.cell m q d e1 e2) t fun o e => upd_new n _ _ e
    · have hm' : m = al.length := by
        have := (List.getElem?_eq_some_iff.mp e1).1
        simp at this; omega
      subst hm'
      have e1' : p = q := by simpa using e1
      have e2' : c = d := by rw [h.len] at e2; simpa using e2
      subst e1'; subst e2'
      exact hc
def EnvR (g : G) (H : Hp) (al : List Addr) (σ : St) (ρ : List (Option D)) : Prop :=
  σ.length = ρ.length ∧ ∀ (i : Nat) (d : D), ρ[i]? = some (some d) → ∃ v, σ[i]? = some (some v) ∧ Rep g H al v d
variable {σ : St} {ρ : List (Option D)}
theorem EnvR.tr (e : EnvR g H al σ ρ) (t : Tr g al H al' H') : EnvR g H' al' σ ρ :=
  ⟨e.1, fun i d h => let ⟨v, h1, h2⟩ := e.2 i d h; ⟨v, h1, h2.tr t⟩⟩
theorem EnvR.set (e : EnvR g H al σ ρ) {i : Nat} {v : V} {d : D} (h : Rep g H al v d) : EnvR g H al (σ.set i (some v)) (ρ.set i (some d)) := by
  refine ⟨by simp [e.1], fun j d' hj => ?_⟩
  by_cases q : i = j
  · subst q
    have hl : i < ρ.length := by
      have := (List.getElem?_eq_some_iff.mp hj).1
      simpa using this
    rw [List.getElem?_set_self hl] at hj
    cases hj
    exact ⟨v, by rw [List.getElem?_set_self (by rw [e.1]; exact hl)], h⟩
  · rw [List.getElem?_set_ne q] at hj
    rw [List.getElem?_set_ne q]
    exact e.2 j d' hj
theorem EnvR.setNone (e : EnvR g H al σ ρ) (i : Nat) : EnvR g H al (σ.set i none) (ρ.set i none) := by
  refine ⟨by simp [e.1], fun j d' hj => ?_⟩
  by_cases q : i = j
  · subst q
    by_cases hl : i < ρ.length
    · rw [List.getElem?_set_self hl] at hj; cases hj
    · rw [List.getElem?_eq_none (by simpa using hl)] at hj; cases hj
  · rw [List.getElem?_set_ne q] at hj
    rw [List.getElem?_set_ne q]
    exact e.2 j d' hj
def wipeD (ρ : List (Option D)) : List Nat → List (Option D)
  | [] => ρ
  | v :: vs => (wipeD ρ vs).set v none
theorem EnvR.wipe (e : EnvR g H al σ ρ) : ∀ vs : List Nat, EnvR g H al (L2.wipe σ vs) (wipeD ρ vs)
  | [] => e
  | v :: vs => (EnvR.wipe e vs).setNone v
inductive Rs (γ : Type) where
  | bad | ok (x : γ) (s : Sto) | exc (c : Nat) (ds : List D) (s : Sto)
def Rs.bind {γ δ : Type} (r : Rs γ) (k : γ → Sto → Rs δ) : Rs δ := match r with
  | .bad => .bad
  | .ok x s => k x s
  | .exc c ds s => .exc c ds s
@[simp] theorem Rs.bind_ok {γ δ : Type} {x : γ} {s : Sto} {k : γ → Sto → Rs δ} : (Rs.ok x s).bind k = k x s := rfl
@[simp] theorem Rs.bind_bad {γ δ : Type} {k : γ → Sto → Rs δ} : (Rs.bad : Rs γ).bind k = .bad := rfl
@[simp] theorem Rs.bind_exc {γ δ : Type} {c : Nat} {ds : List D} {s : Sto} {k : γ → Sto → Rs δ} : (Rs.exc c ds s : Rs γ).bind k = .exc c ds s := rfl
/-- an exception as it flies: its class, its own dict -/
def ExR (g : G) (H : Hp) (al : List Addr) (c : Nat) (ds : List D) (cls : Value) (dd : Option Addr) : Prop :=
  cls = .ref (g.ca c) ∧ ((ds = [] ∧ dd = none) ∨ ∃ dx vs, dd = some dx ∧ H dx = some (.xd ((g.cf c).zip vs)) ∧ Out g al dx ∧ vs.length ≤ (g.cf c).length ∧ Reps g H al vs ds)
def Post {β γ : Type} (g : G) (E : XK) (rel : Hp → List Addr → β → γ → Prop) (r : Rs γ) (H : Hp) (al : List Addr) (Q : β → Hp → Prop) : Prop := match r with
  | .bad => False
  | .ok d s' => ∀ v H' al', Tr g al H al' H' → StOk g H' al' s' → rel H' al' v d → Q v H'
  | .exc c ds s' => ∀ cls dd H' al', Tr g al H al' H' → StOk g H' al' s' → ExR g H' al' c ds cls dd → E cls dd H'
section
variable {β γ δ ε : Type} {E : XK} {rel rel1 : Hp → List Addr → β → γ → Prop} {r : Rs γ} {Q Q' : β → Hp → Prop}
theorem Post.tr (h : Post g E rel r H al Q) (t : Tr g al H al1 H1) : Post g E rel r H1 al1 Q := by
  cases r with
  | bad => exact h
  | ok d s => exact fun v H' al' u => h v H' al' (t.trans u)
  | exc c ds s => exact fun v a H' al' u => h v a H' al' (t.trans u)
theorem Post.mono (h : Post g E rel r H al Q) (k : ∀ v H', Q v H' → Q' v H') : Post g E rel r H al Q' := by
  cases r with
  | bad => exact h
  | ok d s => exact fun v H' al' u st rp => k _ _ (h v H' al' u st rp)
  | exc c ds s => exact h
theorem Post.bind {rel2 : Hp → List Addr → δ → ε → Prop} {k : γ → Sto → Rs ε} {Q2 : δ → Hp → Prop} (h : Post g E rel2 (r.bind k) H al Q2)
    (hk : ∀ d s1 v H1 al1, r = .ok d s1 → Tr g al H al1 H1 → StOk g H1 al1 s1 → rel H1 al1 v d → Post g E rel2 (k d s1) H1 al1 Q2 → Q v H1) : Post g E rel r H al Q := by
  cases r with
  | bad => exact h
  | ok d s => exact fun v H' al' u st rp => hk d s v H' al' rfl u st rp (Post.tr (r := k d s) h u)
  | exc c ds s => exact h
theorem Post.now {x : γ} {v : β} (h : Post g E rel (.ok x s) H al Q) (st : StOk g H al s) (rp : rel H al v x) : Q v H := h v H al .refl st rp
end
end Mx
namespace Mx
open PySem L2
abbrev Ro := List (Option D)
abbrev MD (γ : Type) := Ro → Sto → Rs γ
def TG {β γ : Type} (g : G) (E : XK) (rel : Hp → List Addr → β → γ → Prop) (m : MD γ) : St → Hp → (β → Hp → Prop) → Prop :=
  fun σ H Q => ∃ ρ al s, EnvR g H al σ ρ ∧ StOk g H al s ∧ Post g E rel (m ρ s) H al Q
abbrev TX (g : G) (E : XK) (m : MD D) : TE := TG g E (Rep g) m
abbrev TXs (g : G) (E : XK) (m : MD (List D)) : TA := TG g E (Reps g) m
abbrev TXb (g : G) (E : XK) (m : MD Bool) : TT := TG g E (fun _ _ (b c : Bool) => b = c) m
section
variable {X : Cx} {e : Expr}
theorem pe_mono {t t' : TE} (h : PE X e t) (k : ∀ σ H Q, t' σ H Q → t σ H Q) : PE X e t' := ⟨fun pins s σ H Q I q => h.run pins s σ H Q I (k _ _ _ q)⟩
theorem pt_mono {t t' : TT} (h : PT X e t) (k : ∀ σ H Q, t' σ H Q → t σ H Q) : PT X e t' := ⟨fun pins s σ H Q I q => h.run pins s σ H Q I (k _ _ _ q)⟩
theorem pa_mono {es : List Expr} {t t' : TA} (h : PA X es t) (k : ∀ σ H Q, t' σ H Q → t σ H Q) : PA X es t' := ⟨fun pos pins s σ H Q I q => h.run pos pins s σ H Q I (k _ _ _ q)⟩
theorem ps_mono {st : Stmt} {t t' : TS} (h : PS X st t) (k : ∀ D σ H, t' D σ H → t D σ H) : PS X st t' := ⟨fun pins s σ H D I q => h.run pins s σ H D I (k _ _ _ q)⟩
theorem pss_mono {st : List Stmt} {t t' : TS} (h : PSs X st t) (k : ∀ D σ H, t' D σ H → t D σ H) : PSs X st t' := ⟨fun pins s σ H D I q => h.run pins s σ H D I (k _ _ _ q)⟩
end
/-- the first of two steps -/
theorem TG.bind {g : G} {E : XK} {β γ δ ε : Type} {rel1 : Hp → List Addr → β → γ → Prop} {rel2 : Hp → List Addr → δ → ε → Prop} {m : MD γ} {k : γ → MD ε} {σ : St} {H : Hp} {Q1 : β → Hp → Prop} {Q2 : δ → Hp → Prop}
    (h : TG g E rel2 (fun ρ s => (m ρ s).bind fun x s' => k x ρ s') σ H Q2)
    (hk : ∀ d v H1 al1 ρ s1, EnvR g H1 al1 σ ρ → StOk g H1 al1 s1 → rel1 H1 al1 v d → Post g E rel2 (k d ρ s1) H1 al1 Q2 → Q1 v H1) : TG g E rel1 m σ H Q1 := by
  obtain ⟨ρ, al, s, e, st, p⟩ := h
  exact ⟨ρ, al, s, e, st, Post.bind p fun d s1 v H1 al1 _ t st1 r1 p1 => hk d v H1 al1 ρ s1 (e.tr t) st1 r1 p1⟩
variable {g : G} {E : XK} {X : Cx} {H : Hp} {al : List Addr} {s : Sto} {σ : St} {ρ : Ro}
def newL (c : Bool) (ds : List D) (s : Sto) : Rs D := if c then .ok (.ref s.length) (s ++ [.lst ds]) else .ok (.lst ds) s
theorem post_newL {c : Bool} {vs : List V} {ds : List D} {Q : VK} (st : StOk g H al s) (r : Reps g H al vs ds) (h : Post g E (Rep g) (newL c ds s) H al Q) : ∀ p, H p = none → Q (.ref p) (upd H p (.lst vs)) := by
  intro p n
  have np := st.notin n
  cases c with
  | true =>
    have t : Tr g al H (al ++ [p]) (upd H p (.lst vs)) := .alloc st n
    exact h _ _ _ t (st.alloc n ⟨vs, upd_same, r.tr t⟩) (.ref (by rw [← st.len]; simp))
  | false =>
    have t : Tr g al H al (upd H p (.lst vs)) := .same (upd_new n)
    exact h _ _ _ t (st.same (upd_new n)) (.lst upd_same np (r.tr t))
theorem post_newT {vs : List V} {ds : List D} {Q : VK} (st : StOk g H al s) (r : Reps g H al vs ds) (h : Post g E (Rep g) (.ok (.tup ds) s) H al Q) : ∀ p, H p = none → Q (.ref p) (upd H p (.tup vs)) := by
  intro p n
  have np := st.notin n
  have t : Tr g al H al (upd H p (.tup vs)) := .same (upd_new n)
  exact h _ _ _ t (st.same (upd_new n)) (.tupH upd_same np (r.tr t))
def cellL : Option Cell → Option (List D)
  | some (.lst ds) => some ds
  | _ => none
/-- a list that stands by itself -/
def asH : D → Sto → Option (List D)
  | .lst ds, _ => some ds
  | .ref n, s => cellL s[n]?
  | _, _ => none
/-- a list, perhaps a locked one -/
def asL : D → Sto → Option (List D)
  | .frz ds, _ => some ds
  | x, s => asH x s
@[simp] theorem cellL_some {ds : List D} : cellL (some (.lst ds)) = some ds := rfl
@[simp] theorem asH_lst {ds : List D} {s : Sto} : asH (.lst ds) s = some ds := rfl
@[simp] theorem asH_ref {n : Nat} {s : Sto} : asH (.ref n) s = cellL s[n]? := rfl
@[simp] theorem asL_lst {ds : List D} {s : Sto} : asL (.lst ds) s = some ds := rfl
@[simp] theorem asL_frz {ds : List D} {s : Sto} : asL (.frz ds) s = some ds := rfl
@[simp] theorem asL_ref {n : Nat} {s : Sto} : asL (.ref n) s = cellL s[n]? := rfl
theorem cellL_inv {o : Option Cell} {ds : List D} (h : cellL o = some ds) : o = some (.lst ds) := by
  cases o with
  | none => cases h
  | some c => cases c <;> first | (cases h; rfl) | cases h
theorem asH_ok {x : D} {v : V} {ds : List D} (st : StOk g H al s) (r : Rep g H al v x) (h : asH x s = some ds) : ∃ p vs, v = .ref p ∧ H p = some (.lst vs) ∧ Reps g H al vs ds := by
  cases x with
  | lst es => cases h; cases r with | lst rd _ rs => exact ⟨_, _, rfl, rd, rs⟩
  | ref n =>
    cases r with
    | ref hp =>
      obtain ⟨vs, e1, rs⟩ := st.cell n _ _ hp (cellL_inv h)
      exact ⟨_, vs, rfl, e1, rs⟩
  | _ => cases h
theorem asL_ok {x : D} {v : V} {ds : List D} (st : StOk g H al s) (r : Rep g H al v x) (h : asL x s = some ds) : ∃ p vs, v = .ref p ∧ SqL g.K H p vs ∧ Reps g H al vs ds := by
  cases x with
  | frz es =>
    cases h
    cases r with
    | frz rd _ rs => exact ⟨_, _, rfl, .inl (.inr ⟨_, rd⟩), rs⟩
    | frzK rd rs => exact ⟨_, _, rfl, .inr rd, rs⟩
  | lst es => obtain ⟨p, vs, e1, e2, e3⟩ := asH_ok st r (show asH (.lst es) s = some ds from h); exact ⟨p, vs, e1, SqL.of e2, e3⟩
  | ref n => obtain ⟨p, vs, e1, e2, e3⟩ := asH_ok st r (show asH (.ref n) s = some ds from h); exact ⟨p, vs, e1, SqL.of e2, e3⟩
  | _ => cases h
theorem tup_ok {v : V} {ds : List D} (r : Rep g H al v (.tup ds)) : ∃ p vs, v = .ref p ∧ SqT g.K H p vs ∧ Reps g H al vs ds := by
  cases r with
  | tupH h n rs => exact ⟨_, _, rfl, SqT.of h, rs⟩
  | tupK _ h rs => exact ⟨_, _, rfl, .inr h, rs⟩
def mVar (i : Nat) : MD D := fun ρ s => match ρ[i]? with
  | some (some d) => .ok d s
  | _ => .bad
theorem me_var {i : Nat} {x : Str} {pos : Pos} (h : PE X (.Name x pos) (tVar i)) : PE X (.Name x pos) (TX g E (mVar i)) :=
  pe_mono h fun σ H Q ⟨ρ, al, s, e, st, p⟩ => by
    unfold mVar at p
    cases q : ρ[i]? with
    | none => rw [q] at p; exact p.elim
    | some o =>
      rw [q] at p
      cases o with
      | none => exact p.elim
      | some d =>
        obtain ⟨v, h1, h2⟩ := e.2 i d q
        exact ⟨v, h1, p v H al .refl st h2⟩
def mC (d : D) : MD D := fun _ s => .ok d s
theorem me_c {e : Expr} {v : V} {d : D} (h : PE X e (tC v)) (r : ∀ H al, Rep g H al v d) : PE X e (TX g E (mC d)) :=
  pe_mono h fun σ H Q ⟨ρ, al, s, _, st, p⟩ => p v H al .refl st (r H al)
def mBin (f : D → D → Sto → Rs D) (a b : MD D) : MD D := fun ρ s => (a ρ s).bind fun x s => (b ρ s).bind fun y s => f x y s
def OpOk (g : G) (E : XK) (r : R2) (f : D → D → Sto → Rs D) : Prop :=
  ∀ (H : Hp) (al : List Addr) (s : Sto) (x y : D) (v w : V) (Q : VK), StOk g H al s → Rep g H al v x → Rep g H al w y → Post g E (Rep g) (f x y s) H al Q → r v w H Q
theorem tx_op {r : R2} {f : D → D → Sto → Rs D} {a b : MD D} {Q : VK} (ho : OpOk g E r f) (h : TX g E (mBin f a b) σ H Q) : tOp r (TX g E a) (TX g E b) σ H Q :=
  TG.bind (k := fun x ρ s => (b ρ s).bind fun y s => f x y s) h fun d v H1 al1 ρ s1 e st rp p =>
    ⟨ρ, al1, s1, e, st, Post.bind p fun d2 s2 w H2 al2 _ t st2 rp2 p2 => ho H2 al2 s2 d d2 v w Q st2 (rp.tr t) rp2 p2⟩
theorem OpOk.or1 {r r' : R2} {f : D → D → Sto → Rs D} (h : OpOk g E r f) : OpOk g E (fun x y H Q => r x y H Q ∨ r' x y H Q) f := fun H al s x y v w Q a b c d => .inl (h H al s x y v w Q a b c d)
section
variable {a b : Expr} {ma mb : MD D} {r : R2} {f : D → D → Sto → Rs D} {pos : Pos}
theorem me_bin {op : Operator} (ho : OpR X (binaryOp op) r) (hf : OpOk g E r f) (ha : PE X a (TX g E ma)) (hb : PE X b (TX g E mb)) : PE X (.BinOp a op b pos) (TX g E (mBin f ma mb)) :=
  pe_mono (pe_op ho ha hb) fun σ H Q h => tx_op hf h
theorem me_cmp {op : CmpOp} (ho : OpR X (compareOp op) r) (hm : behindInMarks op b = false) (hf : OpOk g E r f) (ha : PE X a (TX g E ma)) (hb : PE X b (TX g E mb)) : PE X (.Compare a [op] [b] pos) (TX g E (mBin f ma mb)) :=
  pe_mono (pe_cmpR ho ha hb hm) fun σ H Q h => tx_op hf h
end
theorem newL_eq {c : Bool} {ds : List D} {s : Sto} : newL c ds s = if c then .ok (.ref s.length) (s ++ [.lst ds]) else .ok (.lst ds) s := rfl
@[simp] theorem newL_true {ds : List D} {s : Sto} : newL true ds s = .ok (.ref s.length) (s ++ [.lst ds]) := rfl
@[simp] theorem newL_false {ds : List D} {s : Sto} : newL false ds s = .ok (.lst ds) s := rfl
def catD (c : Bool) (x y : D) (s : Sto) : Rs D := match asH x s, asH y s with
  | some a, some b => if a.length + b.length ≤ sizeLine then newL c (a ++ b) s else .bad
  | _, _ => .bad
def addD (c : Bool) : D → D → Sto → Rs D
  | .int i, .int j, s => .ok (.int (i + j)) s
  | .str a, .str b, s => if a.length + b.length ≤ sizeLine then .ok (.str (a ++ b)) s else .bad
  | .tup a, .tup b, s => if a.length + b.length ≤ sizeLine then .ok (.tup (a ++ b)) s else .bad
  | x, y, s => catD c x y s
def rAddI : R2 := rI0 fun i j => .int (i + j)
def rAddS : R2 := fun x y H Q => ∃ i j, x = .str i ∧ y = .str j ∧ i.length + j.length ≤ sizeLine ∧ Q (.str (i ++ j)) H
def rAddAll (K : PySem.W.Frag) : R2 := fun x y H Q => rAddI x y H Q ∨ (rAddS x y H Q ∨ (rCatA K x y H Q ∨ rCat x y H Q))
theorem opr_add : OpR X (binaryOp .Add) (rAddAll X.K) := OpR.or op_add (OpR.or op_add_str (OpR.or op_catA op_cat))
theorem ok_cat {c : Bool} : OpOk g E rCat (catD c) := by
  intro H al s x y v w Q st rx ry p
  unfold catD at p
  cases hx : asH x s with
  | none => rw [hx] at p; exact p.elim
  | some a =>
    cases hy : asH y s with
    | none => rw [hx, hy] at p; exact p.elim
    | some b =>
      rw [hx, hy] at p
      obtain ⟨px, vx, rfl, ex, rsx⟩ := asH_ok st rx hx
      obtain ⟨py, vy, rfl, ey, rsy⟩ := asH_ok st ry hy
      by_cases hl : a.length + b.length ≤ sizeLine
      · simp only [if_pos hl] at p
        exact ⟨px, py, vx, vy, rfl, rfl, ex, ey, by rw [rsx.length, rsy.length]; exact hl, post_newL st (rsx.append rsy) p⟩
      · simp only [if_neg hl] at p; exact p.elim
theorem ok_add {c : Bool} (hK : g.K = X.K) : OpOk g E (rAddAll X.K) (addD c) := by
  intro H al s x y v w Q st rx ry p
  unfold addD at p
  split at p
  · cases rx.int_inv; cases ry.int_inv
    exact .inl ⟨_, _, rfl, rfl, p _ _ _ .refl st (.int _)⟩
  · rename_i a b
    cases rx.str_inv; cases ry.str_inv
    by_cases hl : a.length + b.length ≤ sizeLine
    · rw [if_pos hl] at p
      exact .inr (.inl ⟨_, _, rfl, rfl, hl, p _ _ _ .refl st (.str _)⟩)
    · rw [if_neg hl] at p; exact p.elim
  · rename_i a b
    by_cases hl : a.length + b.length ≤ sizeLine
    · rw [if_pos hl] at p
      obtain ⟨px, vx, rfl, ex, rsx⟩ := tup_ok rx
      obtain ⟨py, vy, rfl, ey, rsy⟩ := tup_ok ry
      rw [hK] at ex ey
      have l1 := rsx.length
      have l2 := rsy.length
      refine .inr (.inr (.inl ⟨px, py, vx, vy, rfl, rfl, ex, ey, by omega, fun z => ?_, fun _ z => ?_, fun _ _ => post_newT st (rsx.append rsy) p⟩))
      · subst z
        cases a with
        | nil => exact p _ _ _ .refl st ry
        | cons _ _ => simp at l1
      · subst z
        cases b with
        | nil => rw [List.append_nil] at p; exact p _ _ _ .refl st rx
        | cons _ _ => simp at l2
    · rw [if_neg hl] at p; exact p.elim
  · exact .inr (.inr (.inr (ok_cat H al s _ _ v w Q st rx ry p)))
/-- two ints, under a condition -/
def intD (C : Int → Int → Prop) [∀ i j, Decidable (C i j)] (f : Int → Int → D) : D → D → Sto → Rs D
  | .int i, .int j, s => if C i j then .ok (f i j) s else .bad
  | _, _, _ => .bad
@[simp] theorem intD_int {C : Int → Int → Prop} [∀ i j, Decidable (C i j)] {f : Int → Int → D} {i j : Int} {s : Sto} : intD C f (.int i) (.int j) s = if C i j then .ok (f i j) s else .bad := rfl
theorem ok_int {C C' : Int → Int → Prop} [∀ i j, Decidable (C i j)] {f : Int → Int → D} {f' : Int → Int → V} (hc : ∀ i j, C i j → C' i j) (hf : ∀ i j H al, Rep g H al (f' i j) (f i j)) : OpOk g E (rI C' f') (intD C f) := by
  intro H al s x y v w Q st rx ry p
  cases x <;> cases y <;> first | exact p.elim | skip
  cases rx.int_inv; cases ry.int_inv
  rename_i i j
  rw [intD_int] at p
  by_cases c : C i j
  · rw [if_pos c] at p
    exact ⟨_, _, rfl, rfl, hc _ _ c, p _ _ _ .refl st (hf ..)⟩
  · rw [if_neg c] at p; exact p.elim
theorem ok_int0 {f : Int → Int → D} {f' : Int → Int → V} (hf : ∀ i j H al, Rep g H al (f' i j) (f i j)) : OpOk g E (rI0 f') (intD (fun _ _ => True) f) := by
  intro H al s x y v w Q st rx ry p
  cases x <;> cases y <;> first | exact p.elim | skip
  cases rx.int_inv; cases ry.int_inv
  rw [intD_int, if_pos trivial] at p
  exact ⟨_, _, rfl, rfl, p _ _ _ .refl st (hf ..)⟩
@[reducible] def MulOk (i j : Int) : Prop := i.natAbs < 2 ^ 64 ∨ j.natAbs < 2 ^ 64 ∨ (i.natAbs < 2 ^ 4000 ∧ j.natAbs < 2 ^ 4000)
@[reducible] def DivOk (_ j : Int) : Prop := 0 < j ∧ j.natAbs < 2 ^ 8000
@[reducible] def ModOk (_ j : Int) : Prop := 0 < j
@[reducible] def PowOk (i j : Int) : Prop := 0 ≤ j ∧ j ≤ 1000000 ∧ i.natAbs < 2 ^ 64
def subD : D → D → Sto → Rs D := intD (fun _ _ => True) fun i j => .int (i - j)
def repD (x : D) (k : Int) (s : Sto) : Rs D := match asH x s with
  | some a => if k.natAbs ≤ 16777216 ∧ a.length * k.toNat ≤ sizeLine then newL false (List.replicate k.toNat a).flatten s else .bad
  | none => .bad
def mulD : D → D → Sto → Rs D
  | .int i, .int j, s => if MulOk i j then .ok (.int (i * j)) s else .bad
  | x, .int k, s => repD x k s
  | _, _, _ => .bad
def divD : D → D → Sto → Rs D := intD DivOk fun i j => .int (i / j)
def modD : D → D → Sto → Rs D := intD ModOk fun i j => .int (i % j)
def powD : D → D → Sto → Rs D := intD PowOk fun i j => .int (i ^ j.toNat)
theorem op_mulA : OpR X (binaryOp .Mult) (rI (fun i j => MulOk i j) fun i j => .int (i * j)) := by
  have h : OpR X (binaryOp .Mult) (fun x y H Q => rI CMul (fun i j => .int (i * j)) x y H Q ∨ rI CMulW (fun i j => .int (i * j)) x y H Q) := OpR.or op_mul op_mulW
  intro pins s σ H x y v u Q I rx ry ⟨i, j, e1, e2, c, q⟩
  refine h pins s σ H x y v u Q I rx ry ?_
  rcases c with c | c | c
  · exact .inl ⟨i, j, e1, e2, .inl (by omega), q⟩
  · exact .inl ⟨i, j, e1, e2, .inr (by omega), q⟩
  · exact .inr ⟨i, j, e1, e2, wide_mul c.1 c.2 (by decide) (by decide) (by decide), q⟩
theorem ok_sub : OpOk g E (rI0 fun i j => .int (i - j)) subD := ok_int0 fun _ _ _ _ => .int _
theorem Reps.rep {vs : List V} {ds : List D} (r : Reps g H al vs ds) : ∀ n : Nat, Reps g H al (List.replicate n vs).flatten (List.replicate n ds).flatten
  | 0 => .nil
  | n + 1 => by
    rw [List.replicate_succ, List.replicate_succ, List.flatten_cons, List.flatten_cons]
    exact r.append (Reps.rep r n)
theorem ok_mul : OpOk g E (fun x y H Q => rI (fun i j => MulOk i j) (fun i j => .int (i * j)) x y H Q ∨ rRep x y H Q) mulD := by
  intro H al s x y v w Q st rx ry p
  unfold mulD at p
  split at p
  · rename_i i j
    cases rx.int_inv; cases ry.int_inv
    by_cases c : MulOk i j
    · rw [if_pos c] at p
      exact .inl ⟨_, _, rfl, rfl, c, p _ _ _ .refl st (.int _)⟩
    · rw [if_neg c] at p; exact p.elim
  · rename_i k _
    cases ry.int_inv
    unfold repD at p
    cases hx : asH x s with
    | none => rw [hx] at p; exact p.elim
    | some a =>
      rw [hx] at p
      obtain ⟨px, vx, rfl, ex, rsx⟩ := asH_ok st rx hx
      by_cases hl : k.natAbs ≤ 16777216 ∧ a.length * k.toNat ≤ sizeLine
      · simp only [if_pos hl] at p
        exact .inr ⟨px, k, vx, rfl, rfl, ex, by omega, by omega, by rw [rsx.length]; exact hl.2, post_newL st (rsx.rep k.toNat) p⟩
      · simp only [if_neg hl] at p; exact p.elim
  · exact p.elim
theorem ok_div : OpOk g E (rI CDivW fun i j => .int (i / j)) divD := ok_int (fun _ _ h => wide_div h.1 h.2 (by decide) (by decide)) fun _ _ _ _ => .int _
theorem ok_mod : OpOk g E (rI (fun _ j => 0 < j) fun i j => .int (i % j)) modD := ok_int (fun _ _ h => h) fun _ _ _ _ => .int _
theorem ok_pow : OpOk g E (rI CPow fun i j => .int (i ^ j.toNat)) powD := ok_int (fun _ _ h => h) fun _ _ _ _ => .int _
def ltD : D → D → Sto → Rs D := intD (fun _ _ => True) fun i j => .bl (decide (i < j))
def leD : D → D → Sto → Rs D := intD (fun _ _ => True) fun i j => .bl (decide (i ≤ j))
def gtD : D → D → Sto → Rs D := intD (fun _ _ => True) fun i j => .bl (decide (j < i))
def geD : D → D → Sto → Rs D := intD (fun _ _ => True) fun i j => .bl (decide (j ≤ i))
theorem ok_lt : OpOk g E (rI0 fun i j => .bl (decide (i < j))) ltD := ok_int0 fun _ _ _ _ => .bl _
theorem ok_le : OpOk g E (rI0 fun i j => .bl (decide (i ≤ j))) leD := ok_int0 fun _ _ _ _ => .bl _
theorem ok_gt : OpOk g E (rI0 fun i j => .bl (decide (j < i))) gtD := ok_int0 fun _ _ _ _ => .bl _
theorem ok_ge : OpOk g E (rI0 fun i j => .bl (decide (j ≤ i))) geD := ok_int0 fun _ _ _ _ => .bl _
def allSome {α : Type} : List (Option α) → Option (List α)
  | [] => some []
  | some x :: r => (allSome r).map (x :: ·)
  | none :: _ => none
def toPy (s : Sto) : Nat → D → Option PyData
  | _, .non => some .none
  | _, .bl b => some (.bool b)
  | _, .int i => some (.int i)
  | _, .str x => some (.str x)
  | n + 1, .tup ds => (allSome (ds.map (toPy s n))).map .tuple
  | n + 1, .lst ds => (allSome (ds.map (toPy s n))).map .list
  | n + 1, .frz ds => (allSome (ds.map (toPy s n))).map .list
  | n + 1, .ref m => match cellL s[m]? with
    | some ds => (allSome (ds.map (toPy s n))).map .list
    | none => none
  | _, _ => none
theorem dpAll_of {n : Nat} (ih : ∀ (d : D) (v : V) (p : PyData), toPy s n d = some p → Rep g H al v d → Dp g.K H v p ∧ p.plain = true ∧ p.depth ≤ n) :
    ∀ (ds : List D) (vs : List V) (ps : List PyData), allSome (ds.map (toPy s n)) = some ps → Reps g H al vs ds → DpAll g.K H vs ps ∧ PyData.plainAll ps = true ∧ PyData.depthAll ps ≤ n
  | [], _, _, h, r => by
    cases r
    have h' : (some [] : Option (List PyData)) = some _ := h
    cases h'
    exact ⟨.nil, rfl, Nat.zero_le _⟩
  | d :: ds, _, _, h, r => by
    cases r with
    | cons r1 r2 =>
      rw [List.map_cons] at h
      cases e : toPy s n d with
      | none => rw [e] at h; cases h
      | some p =>
        rw [e] at h
        have h' : (allSome (ds.map (toPy s n))).map (p :: ·) = some _ := h
        cases e2 : allSome (ds.map (toPy s n)) with
        | none => rw [e2] at h'; cases h'
        | some ps =>
          rw [e2] at h'; cases h'
          obtain ⟨a1, a2, a3⟩ := ih d _ p e r1
          obtain ⟨b1, b2, b3⟩ := dpAll_of ih ds _ ps e2 r2
          exact ⟨.cons a1 b1, by simp [PyData.plainAll, a2, b2], by simp only [PyData.depthAll]; omega⟩
theorem dp_of (st : StOk g H al s) : ∀ (n : Nat) (d : D) (v : V) (p : PyData), toPy s n d = some p → Rep g H al v d → Dp g.K H v p ∧ p.plain = true ∧ p.depth ≤ n := by
  intro n
  induction n with
  | zero =>
    intro d v p h r
    cases d <;> first | (cases h; done) | skip
    all_goals (simp only [toPy, Option.some.injEq] at h; subst h; cases r)
    · exact ⟨.non, rfl, Nat.zero_le _⟩
    · exact ⟨.bl _, rfl, Nat.zero_le _⟩
    · exact ⟨.int _, rfl, Nat.zero_le _⟩
    · exact ⟨.str _, rfl, Nat.zero_le _⟩
  | succ n ih =>
    intro d v p h r
    have lists : ∀ (ds : List D) (q : PyData), (allSome (ds.map (toPy s n))).map PyData.list = some q → asL d s = some ds → Dp g.K H v q ∧ q.plain = true ∧ q.depth ≤ n + 1 := by
      intro ds q hq hd
      cases e : allSome (ds.map (toPy s n)) with
      | none => rw [e] at hq; cases hq
      | some ps =>
        rw [e] at hq; cases hq
        obtain ⟨pa, vs, rfl, sq, rs⟩ := asL_ok st r hd
        obtain ⟨b1, b2, b3⟩ := dpAll_of ih ds _ ps e rs
        exact ⟨.lst sq b1, b2, by simp only [PyData.depth]; omega⟩
    cases d with
    | non => simp only [toPy, Option.some.injEq] at h; subst h; cases r; exact ⟨.non, rfl, Nat.zero_le _⟩
    | bl b => simp only [toPy, Option.some.injEq] at h; subst h; cases r; exact ⟨.bl _, rfl, Nat.zero_le _⟩
    | int i => simp only [toPy, Option.some.injEq] at h; subst h; cases r; exact ⟨.int _, rfl, Nat.zero_le _⟩
    | str x => simp only [toPy, Option.some.injEq] at h; subst h; cases r; exact ⟨.str _, rfl, Nat.zero_le _⟩
    | tup ds =>
      have h' : (allSome (ds.map (toPy s n))).map .tuple = some p := h
      cases e : allSome (ds.map (toPy s n)) with
      | none => rw [e] at h'; cases h'
      | some ps =>
        rw [e] at h'; cases h'
        obtain ⟨pa, vs, rfl, sq, rs⟩ := tup_ok r
        obtain ⟨b1, b2, b3⟩ := dpAll_of ih ds _ ps e rs
        exact ⟨.tup sq b1, b2, by simp only [PyData.depth]; omega⟩
    | lst ds => exact lists ds p h rfl
    | frz ds => exact lists ds p h rfl
    | ref m =>
      cases e : cellL s[m]? with
      | none => rw [toPy, e] at h; cases h
      | some ds => rw [toPy, e] at h; exact lists ds p h e
    | obj c ds => cases h
    | exv c ds => cases h
    | twn c ds => cases h
def eqv2 (x y : D) (s : Sto) : Option Bool := match toPy s 60 x, toPy s 60 y with
  | some a, some b => some (PyData.eqv a b)
  | _, _ => none
/-- two lists of unlike lengths -/
def lensB (x y : D) (s : Sto) : Bool := match asL x s, asL y s with
  | some a, some b => !decide (a.length = b.length)
  | _, _ => false
/-- leaves that are alike where they are the same objects -/
def idB : Nat → D → Bool
  | _, .non => true
  | _, .bl _ => true
  | _, .int _ => true
  | _, .str _ => true
  | _, .ref _ => true
  | n + 1, .tup ds => ds.all (idB n)
  | n + 1, .lst ds => ds.all (idB n)
  | n + 1, .frz ds => ds.all (idB n)
  | _, _ => false
/-- two lists of the same things -/
def sameB (x y : D) (s : Sto) : Bool := match x, y with
  | .twn a _, .twn b _ => decide (a = b)
  | _, _ => match asL x s, asL y s with
    | some a, some b => D.beqs a b && a.all (idB 50)
    | _, _ => false
def eqD : D → D → Sto → Rs D
  | .int i, .int j, s => .ok (.bl (decide (i = j))) s
  | .str a, .str b, s => .ok (.bl (decide (a = b))) s
  | x, y, s => match eqv2 x y s with
    | some b => .ok (.bl b) s
    | none => if lensB x y s then .ok (.bl false) s else if sameB x y s then .ok (.bl true) s else .bad
def neD : D → D → Sto → Rs D
  | .int i, .int j, s => .ok (.bl (!decide (i = j))) s
  | .str a, .str b, s => .ok (.bl (!decide (a = b))) s
  | x, y, s => match eqv2 x y s with
    | some b => .ok (.bl (!b)) s
    | none => if lensB x y s then .ok (.bl true) s else if sameB x y s then .ok (.bl false) s else .bad
/-- the same, as it is seen: flat and alike, one object, or tuples | lists of such -/
def EqI (K : PySem.W.Frag) (H : Hp) : Nat → V → V → Prop
  | 0 => fun x y => (x = y ∧ flatB x = true) ∨ ∃ a, x = .ref a ∧ y = .ref a
  | n + 1 => fun x y => ((x = y ∧ flatB x = true) ∨ ∃ a, x = .ref a ∧ y = .ref a) ∨ ∃ a b xs ys, x = .ref a ∧ y = .ref b ∧ ((SqT K H a xs ∧ SqT K H b ys) ∨ (SqL K H a xs ∧ SqL K H b ys)) ∧ xs.length = ys.length ∧ ∀ (j : Nat) (p q : V), xs[j]? = some p → ys[j]? = some q → EqI K H n p q
theorem val_at {vs : List V} {us : List Value} (r : Vals vs us) : ∀ {j : Nat} {u : Value}, us[j]? = some u → ∃ v, vs[j]? = some v ∧ RelV v u := by
  induction r with
  | nil => intro j u h; cases h
  | cons h _ ih =>
    intro j u e
    cases j with
    | zero => cases e; exact ⟨_, rfl, h⟩
    | succ j => exact ih (j := j) e
theorem all_true (n : Nat) : ((List.range n).all fun _ => true) = true := List.all_eq_true.mpr fun _ _ => rfl
section
variable {pins : List (Addr × Obj)} {t : Shared}
theorem items_of {P : V → V → Prop} {A : Around} {xs ys : List V} {us ws : List Value} (r1 : Vals xs us) (r2 : Vals ys ws) (hp : ∀ (j : Nat) (p q : V), xs[j]? = some p → ys[j]? = some q → P p q)
    (run : ∀ p q u w, P p q → RelV p u → RelV q w → SeqAt.EqAt A t u w true) (j : Nat) (h1 : j < us.toArray.size) (h2 : j < ws.toArray.size) : SeqAt.EqAt A t us.toArray[j] ws.toArray[j] true := by
  have e1 : us[j]? = some us.toArray[j] := by simp at h1 ⊢
  have e2 : ws[j]? = some ws.toArray[j] := by simp at h2 ⊢
  obtain ⟨p, a1, a2⟩ := val_at r1 e1
  obtain ⟨q, b1, b2⟩ := val_at r2 e2
  exact run p q _ _ (hp j p q a1 b1) a2 b2
theorem eqI_run (I : Inv X pins σ H t) : ∀ (n : Nat) (A : Around), A.units + n < cLine → ∀ (x y : V) (v u : Value), EqI X.K H n x y → RelV x v → RelV y u → SeqAt.EqAt A t v u true := by
  have one : ∀ (A : Around) (x y : V) (v u : Value), ((x = y ∧ flatB x = true) ∨ ∃ a, x = .ref a ∧ y = .ref a) → RelV x v → RelV y u → SeqAt.EqAt A t v u true := fun A x y v u h rx ry => by
    rcases h with ⟨rfl, f⟩ | ⟨a, rfl, rfl⟩
    · exact eqAt_same rx ry f
    · obtain rfl : v = Value.ref a := rx
      obtain rfl : u = Value.ref a := ry
      exact SeqAt.EqAt.same _
  intro n
  induction n with
  | zero => exact fun A _ x y v u h rx ry => one A x y v u h rx ry
  | succ n ih =>
    intro A hu x y v u h rx ry
    rcases h with h | ⟨a, b, xs, ys, rfl, rfl, hq, hl, hp⟩
    · exact one A x y v u h rx ry
    · obtain rfl : v = Value.ref a := rx
      obtain rfl : u = Value.ref b := ry
      by_cases e : a = b
      · subst e; exact SeqAt.EqAt.same _
      · have stepI := ih A.in1 (by show A.units + 1 + n < cLine; omega)
        refine SeqAt.EqAt.of_refs e ?_
        rcases hq with ⟨ha, hb⟩ | ⟨ha, hb⟩
        · obtain ⟨us, r1, p1, _⟩ := I.tuple ha
          obtain ⟨ws, r2, p2, _⟩ := I.tuple hb
          have sz : us.toArray.size = ws.toArray.size := by rw [List.size_toArray, List.size_toArray, ← r1.length, ← r2.length, hl]
          have := SeqAt.RcAt.tuples (e := fun _ => true) p1 p2 (by omega : A.units < cLine) fun j h1 h2 => items_of r1 r2 hp stepI j h1 h2
          rw [all_true, sz] at this
          simpa using this
        · obtain ⟨us, r1, p1, _⟩ := I.list ha
          obtain ⟨wz, r2, p2, _⟩ := I.list hb
          have sz : us.toArray.size = wz.toArray.size := by rw [List.size_toArray, List.size_toArray, ← r1.length, ← r2.length, hl]
          have := SeqAt.RcAt.lists (e := fun _ => true) p1.isList p2.isList sz (by omega : A.units < cLine) fun j h1 h2 => items_of r1 r2 hp stepI j h1 h2
          rwa [all_true] at this
end
theorem reps_same {n : Nat} (ih : ∀ (d : D) (v w : V), idB n d = true → Rep g H al v d → Rep g H al w d → EqI g.K H n v w) : ∀ {ds : List D} {vs ws : List V}, ds.all (idB n) = true → Reps g H al vs ds → Reps g H al ws ds →
    vs.length = ws.length ∧ ∀ (j : Nat) (p q : V), vs[j]? = some p → ws[j]? = some q → EqI g.K H n p q := fun {ds} => by
  induction ds with
  | nil => intro vs ws h r1 r2; cases r1; cases r2; exact ⟨rfl, fun j p q e => nomatch e⟩
  | cons d ds k =>
    intro vs ws h r1 r2
    cases r1 with
    | cons a1 b1 =>
      cases r2 with
      | cons a2 b2 =>
        rw [List.all_cons, Bool.and_eq_true] at h
        obtain ⟨l, m⟩ := k h.2 b1 b2
        refine ⟨congrArg (· + 1) l, fun j p q e1 e2 => ?_⟩
        cases j with
        | zero => cases e1; cases e2; exact ih d _ _ h.1 a1 a2
        | succ j => exact m j p q e1 e2
theorem idB_ok (st : StOk g H al s) : ∀ (n : Nat) (d : D) (v w : V), idB n d = true → Rep g H al v d → Rep g H al w d → EqI g.K H n v w := by
  have base : ∀ (d : D) (v w : V), idB 0 d = true → Rep g H al v d → Rep g H al w d → (v = w ∧ flatB v = true) ∨ ∃ a, v = .ref a ∧ w = .ref a := fun d v w h r1 r2 => by
    cases d with
    | non => cases r1; cases r2; exact .inl ⟨rfl, rfl⟩
    | bl b => cases r1; cases r2; exact .inl ⟨rfl, rfl⟩
    | int i => cases r1; cases r2; exact .inl ⟨rfl, rfl⟩
    | str x => cases r1; cases r2; exact .inl ⟨rfl, rfl⟩
    | ref n =>
      cases r1 with
      | ref e1 =>
        cases r2 with
        | ref e2 => rw [e1] at e2; cases e2; exact .inr ⟨_, rfl, rfl⟩
    | _ => cases h
  intro n
  induction n with
  | zero => exact fun d v w h r1 r2 => base d v w h r1 r2
  | succ n ih =>
    intro d v w h r1 r2
    cases d with
    | non => exact .inl (base .non v w rfl r1 r2)
    | bl b => exact .inl (base (.bl b) v w rfl r1 r2)
    | int i => exact .inl (base (.int i) v w rfl r1 r2)
    | str x => exact .inl (base (.str x) v w rfl r1 r2)
    | ref m => exact .inl (base (.ref m) v w rfl r1 r2)
    | tup ds =>
      obtain ⟨p, vs, rfl, q1, k1⟩ := tup_ok r1
      obtain ⟨q, ws, rfl, q2, k2⟩ := tup_ok r2
      obtain ⟨l, m⟩ := reps_same ih h k1 k2
      exact .inr ⟨p, q, vs, ws, rfl, rfl, .inl ⟨q1, q2⟩, l, m⟩
    | lst ds =>
      obtain ⟨p, vs, rfl, q1, k1⟩ := asL_ok st r1 rfl
      obtain ⟨q, ws, rfl, q2, k2⟩ := asL_ok st r2 rfl
      obtain ⟨l, m⟩ := reps_same ih h k1 k2
      exact .inr ⟨p, q, vs, ws, rfl, rfl, .inr ⟨q1, q2⟩, l, m⟩
    | frz ds =>
      obtain ⟨p, vs, rfl, q1, k1⟩ := asL_ok st r1 rfl
      obtain ⟨q, ws, rfl, q2, k2⟩ := asL_ok st r2 rfl
      obtain ⟨l, m⟩ := reps_same ih h k1 k2
      exact .inr ⟨p, q, vs, ws, rfl, rfl, .inr ⟨q1, q2⟩, l, m⟩
    | obj c ds => cases h
    | exv c ds => cases h
    | twn c ds => cases h
theorem sameB_ok {x y : D} {v w : V} (st : StOk g H al s) (rx : Rep g H al v x) (ry : Rep g H al w y) (h : sameB x y s = true) :
    ∃ p q xs ys, v = .ref p ∧ w = .ref q ∧ SqL g.K H p xs ∧ SqL g.K H q ys ∧ xs.length = ys.length ∧ ∀ (j : Nat) (a b : V), xs[j]? = some a → ys[j]? = some b → EqI g.K H 50 a b := by
  have one : ∀ {a : V} {d : D}, Rep g H al a d → EqI g.K H 50 a a := fun {a d} r => by
    cases r <;> first | exact .inl (.inl ⟨rfl, rfl⟩) | exact .inl (.inr ⟨_, rfl, rfl⟩)
  unfold sameB at h
  split at h
  · obtain rfl := of_decide_eq_true h
    cases rx with
    | twn h1 o1 r1 =>
      cases ry with
      | twn h2 o2 r2 =>
        refine ⟨_, _, _, _, rfl, rfl, .inl (.inl h1), .inl (.inl h2), rfl, fun j a b e1 e2 => ?_⟩
        rw [e1] at e2; cases e2
        obtain ⟨d, _, r⟩ := r1.getV e1
        exact one r
  · cases e1 : asL x s with
    | none => rw [e1] at h; cases h
    | some a =>
      cases e2 : asL y s with
      | none => rw [e1, e2] at h; cases h
      | some b =>
        rw [e1, e2] at h
        rw [Bool.and_eq_true] at h
        obtain rfl := D.beqs_ok h.1
        obtain ⟨p, vs, rfl, sq, rs⟩ := asL_ok st rx e1
        obtain ⟨q, ws, rfl, sq', rs'⟩ := asL_ok st ry e2
        obtain ⟨l, m⟩ := reps_same (fun d v w => idB_ok st 50 d v w) h.2 rs rs'
        exact ⟨p, q, vs, ws, rfl, rfl, sq, sq', l, m⟩
def rEqP (K : PySem.W.Frag) (neg : Bool) : R2 := fun x y H Q => (∃ d e, Dp K H x d ∧ Dp K H y e ∧ d.plain = true ∧ e.plain = true ∧ d.depth ≤ 60 ∧ Q (.bl (neg ^^ PyData.eqv d e)) H) ∨
  (∃ p q xs ys, x = .ref p ∧ y = .ref q ∧ SqL K H p xs ∧ SqL K H q ys ∧ xs.length ≠ ys.length ∧ Q (.bl neg) H) ∨
  ∃ p q xs ys, x = .ref p ∧ y = .ref q ∧ SqL K H p xs ∧ SqL K H q ys ∧ xs.length = ys.length ∧ (∀ (j : Nat) (a b : V), xs[j]? = some a → ys[j]? = some b → EqI K H 50 a b) ∧ Q (.bl (!neg)) H
theorem lens_size {xs ys : List V} {its itt : List Value} (h1 : Vals xs its) (h2 : Vals ys itt) (h : xs.length ≠ ys.length) : (its.toArray.size != itt.toArray.size) = true := by
  have e1 := h1.length
  have e2 := h2.length
  simp only [List.size_toArray, bne_iff_ne, ne_eq]
  omega
theorem op_eqP (hu : X.A.units + 64 < cLine) : OpR X (compareOp .Eq) (rEqP X.K false) := by
  intro pins s σ H x y v u Q I rx ry h
  rcases h with ⟨d, e, hd, he, sd, se, z, q⟩ | ⟨a, b, xs, ys, rfl, rfl, hx, hy, hl, q⟩ | ⟨a, b, xs, ys, rfl, rfl, hx, hy, hl, hp, q⟩
  · obtain ⟨as, r1⟩ := Dp.reads I d x v hd rx
    obtain ⟨bs, r2⟩ := Dp.reads I e y u he ry
    exact SeqAt.eq_plain r1 r2 sd se (by omega) ⟨.bl _, H, I, rfl, by simpa using q⟩
  · cases rx
    cases ry
    obtain ⟨its, rv, ⟨o, n, ho, hc, _, hd⟩, _⟩ := I.list hx
    obtain ⟨itt, rw_, ⟨o', n', ho', hc', _, hd'⟩, _⟩ := I.list hy
    exact SeqAt.RcAt.lists_lengths ⟨_, ho, hc, _, hd⟩ ⟨_, ho', hc', _, hd'⟩ (lens_size rv rw_ hl) (by omega) _ _ _ _ ⟨.bl _, H, I, rfl, q⟩
  · cases rx
    cases ry
    obtain ⟨us, r1, p1, _⟩ := I.list hx
    obtain ⟨ws, r2, p2, _⟩ := I.list hy
    have sz : us.toArray.size = ws.toArray.size := by rw [List.size_toArray, List.size_toArray, ← r1.length, ← r2.length, hl]
    have same := SeqAt.RcAt.lists (e := fun _ => true) p1.isList p2.isList sz (by omega : X.A.units < cLine) fun j h1 h2 => items_of r1 r2 hp (eqI_run I 50 X.A.in1 (by show X.A.units + 1 + 50 < cLine; omega)) j h1 h2
    rw [all_true] at same
    exact same _ _ _ _ ⟨.bl _, H, I, rfl, q⟩
theorem op_neP (hu : X.A.units + 64 < cLine) : OpR X (compareOp .NotEq) (rEqP X.K true) := by
  intro pins s σ H x y v u Q I rx ry h
  rcases h with ⟨d, e, hd, he, sd, se, z, q⟩ | ⟨a, b, xs, ys, rfl, rfl, hx, hy, hl, q⟩ | ⟨a, b, xs, ys, rfl, rfl, hx, hy, hl, hp, q⟩
  · obtain ⟨as, r1⟩ := Dp.reads I d x v hd rx
    obtain ⟨bs, r2⟩ := Dp.reads I e y u he ry
    exact SeqAt.ne_plain r1 r2 sd se (by omega) ⟨.bl _, H, I, rfl, by simpa using q⟩
  · cases rx
    cases ry
    obtain ⟨its, rv, ⟨o, n, ho, hc, _, hd⟩, _⟩ := I.list hx
    obtain ⟨itt, rw_, ⟨o', n', ho', hc', _, hd'⟩, _⟩ := I.list hy
    exact SeqAt.RcNeAt.lists_lengths ⟨_, ho, hc, _, hd⟩ ⟨_, ho', hc', _, hd'⟩ (lens_size rv rw_ hl) (by omega) _ _ _ _ ⟨.bl _, H, I, rfl, q⟩
  · cases rx
    cases ry
    obtain ⟨us, r1, p1, _⟩ := I.list hx
    obtain ⟨ws, r2, p2, _⟩ := I.list hy
    have sz : us.toArray.size = ws.toArray.size := by rw [List.size_toArray, List.size_toArray, ← r1.length, ← r2.length, hl]
    have same := SeqAt.RcNeAt.lists (e := fun _ => true) p1.isList p2.isList sz (by omega : X.A.units < cLine) fun j h1 h2 => items_of r1 r2 hp (eqI_run I 50 X.A.in1 (by show X.A.units + 1 + 50 < cLine; omega)) j h1 h2
    rw [all_true] at same
    exact same _ _ _ _ ⟨.bl _, H, I, rfl, q⟩
theorem lensB_ok {x y : D} {v w : V} (st : StOk g H al s) (rx : Rep g H al v x) (ry : Rep g H al w y) (h : lensB x y s = true) :
    ∃ p q xs ys, v = .ref p ∧ w = .ref q ∧ SqL g.K H p xs ∧ SqL g.K H q ys ∧ xs.length ≠ ys.length := by
  unfold lensB at h
  cases e1 : asL x s with
  | none => rw [e1] at h; cases h
  | some a =>
    cases e2 : asL y s with
    | none => rw [e1, e2] at h; cases h
    | some b =>
      rw [e1, e2] at h
      obtain ⟨p, vs, rfl, sq, rs⟩ := asL_ok st rx e1
      obtain ⟨q, ws, rfl, sq', rs'⟩ := asL_ok st ry e2
      refine ⟨p, q, vs, ws, rfl, rfl, sq, sq', ?_⟩
      rw [rs.length, rs'.length]
      simpa using h
theorem eqv2_ok {x y : D} {v w : V} {b : Bool} (st : StOk g H al s) (rx : Rep g H al v x) (ry : Rep g H al w y) (h : eqv2 x y s = some b) :
    ∃ d e, Dp g.K H v d ∧ Dp g.K H w e ∧ d.plain = true ∧ e.plain = true ∧ d.depth ≤ 60 ∧ b = PyData.eqv d e := by
  unfold eqv2 at h
  cases e1 : toPy s 60 x with
  | none => rw [e1] at h; cases h
  | some a =>
    cases e2 : toPy s 60 y with
    | none => rw [e1, e2] at h; cases h
    | some c =>
      rw [e1, e2] at h; cases h
      obtain ⟨a1, a2, a3⟩ := dp_of st 60 x v a e1 rx
      obtain ⟨b1, b2, b3⟩ := dp_of st 60 y w c e2 ry
      exact ⟨a, c, a1, b1, a2, b2, a3, rfl⟩
theorem ok_eq (hK : g.K = X.K) : OpOk g E (rEqP X.K false) eqD := by
  intro H al s x y v w Q st rx ry p
  unfold eqD at p
  split at p
  · cases rx.int_inv; cases ry.int_inv
    exact .inl ⟨_, _, .int _, .int _, rfl, rfl, Nat.zero_le _, p _ _ _ .refl st (by rw [Bool.false_xor]; exact .bl _)⟩
  · rename_i a b
    cases rx.str_inv; cases ry.str_inv
    refine .inl ⟨_, _, .str _, .str _, rfl, rfl, Nat.zero_le _, ?_⟩
    have e : (PyData.eqv (.str a) (.str b)) = decide (a = b) := by simp only [PyData.eqv]; rw [Bool.beq_eq_decide_eq]
    rw [e]
    exact p _ _ _ .refl st (by rw [Bool.false_xor]; exact .bl _)
  · cases e : eqv2 x y s with
    | none =>
      simp only [e] at p
      by_cases q : lensB x y s = true
      · simp only [q, if_true] at p
        obtain ⟨pa, pb, xs, ys, rfl, rfl, h1, h2, h3⟩ := lensB_ok st rx ry q
        rw [hK] at h1 h2
        exact .inr (.inl ⟨pa, pb, xs, ys, rfl, rfl, h1, h2, h3, p _ _ _ .refl st (.bl _)⟩)
      · simp only [if_neg q] at p
        by_cases q2 : sameB x y s = true
        · rw [if_pos q2] at p
          obtain ⟨pa, pb, xs, ys, rfl, rfl, h1, h2, h3, h4⟩ := sameB_ok st rx ry q2
          rw [hK] at h1 h2 h4
          exact .inr (.inr ⟨pa, pb, xs, ys, rfl, rfl, h1, h2, h3, h4, p _ _ _ .refl st (.bl _)⟩)
        · rw [if_neg q2] at p; exact p.elim
    | some b =>
      simp only [e] at p
      obtain ⟨d, e', h1, h2, h3, h4, h5, rfl⟩ := eqv2_ok st rx ry e
      rw [hK] at h1 h2
      exact .inl ⟨d, e', h1, h2, h3, h4, h5, p _ _ _ .refl st (by rw [Bool.false_xor]; exact .bl _)⟩
theorem ok_ne (hK : g.K = X.K) : OpOk g E (rEqP X.K true) neD := by
  intro H al s x y v w Q st rx ry p
  unfold neD at p
  split at p
  · cases rx.int_inv; cases ry.int_inv
    exact .inl ⟨_, _, .int _, .int _, rfl, rfl, Nat.zero_le _, p _ _ _ .refl st (by rw [Bool.true_xor]; exact .bl _)⟩
  · rename_i a b
    cases rx.str_inv; cases ry.str_inv
    refine .inl ⟨_, _, .str _, .str _, rfl, rfl, Nat.zero_le _, ?_⟩
    have e : (PyData.eqv (.str a) (.str b)) = decide (a = b) := by simp only [PyData.eqv]; rw [Bool.beq_eq_decide_eq]
    rw [e]
    exact p _ _ _ .refl st (by rw [Bool.true_xor]; exact .bl _)
  · cases e : eqv2 x y s with
    | none =>
      simp only [e] at p
      by_cases q : lensB x y s = true
      · simp only [q, if_true] at p
        obtain ⟨pa, pb, xs, ys, rfl, rfl, h1, h2, h3⟩ := lensB_ok st rx ry q
        rw [hK] at h1 h2
        exact .inr (.inl ⟨pa, pb, xs, ys, rfl, rfl, h1, h2, h3, p _ _ _ .refl st (.bl _)⟩)
      · simp only [if_neg q] at p
        by_cases q2 : sameB x y s = true
        · rw [if_pos q2] at p
          obtain ⟨pa, pb, xs, ys, rfl, rfl, h1, h2, h3, h4⟩ := sameB_ok st rx ry q2
          rw [hK] at h1 h2 h4
          exact .inr (.inr ⟨pa, pb, xs, ys, rfl, rfl, h1, h2, h3, h4, p _ _ _ .refl st (.bl _)⟩)
        · rw [if_neg q2] at p; exact p.elim
    | some b =>
      simp only [e] at p
      obtain ⟨d, e', h1, h2, h3, h4, h5, rfl⟩ := eqv2_ok st rx ry e
      rw [hK] at h1 h2
      exact .inl ⟨d, e', h1, h2, h3, h4, h5, p _ _ _ .refl st (by rw [Bool.true_xor]; exact .bl _)⟩
end Mx
namespace Mx
open PySem L2
variable {g : G} {E : XK} {X : Cx} {H : Hp} {al : List Addr} {s : Sto} {σ : St} {ρ : Ro}
section
variable {κ : Type} [DecidableEq κ]
def vAt (kvs : List (κ × D)) (k : κ) : Option D := (kvs.find? fun kv => decide (kv.1 = k)).map (·.2)
def vPut (kvs : List (κ × D)) (k : κ) (d : D) : List (κ × D) :=
  if (kvs.any fun kv => decide (kv.1 = k)) = true then kvs.map (fun kv => if kv.1 = k then (kv.1, d) else kv) else kvs ++ [(k, d)]
def vDrop (kvs : List (κ × D)) (k : κ) : List (κ × D) := kvs.filter fun kv => decide (kv.1 ≠ k)
def DRep (g : G) (H : Hp) (al : List Addr) (kv : List (κ × V)) (kvs : List (κ × D)) : Prop := kv.map (·.1) = kvs.map (·.1) ∧ Reps g H al (kv.map (·.2)) (kvs.map (·.2))
theorem DRep.inv {kv : List (κ × V)} {k : κ} {d : D} {kvs : List (κ × D)} (h : DRep g H al kv ((k, d) :: kvs)) : ∃ v kv', kv = (k, v) :: kv' ∧ Rep g H al v d ∧ DRep g H al kv' kvs := by
  obtain ⟨h1, h2⟩ := h
  cases kv with
  | nil => cases h1
  | cons p kv' =>
    obtain ⟨k', v⟩ := p
    simp only [List.map_cons, List.cons.injEq] at h1
    obtain ⟨e, h1⟩ := h1
    have e' : k' = k := e
    subst e'
    cases h2 with
    | cons r r2 => exact ⟨v, kv', rfl, r, h1, r2⟩
theorem DRep.nil_inv {kv : List (κ × V)} (h : DRep g H al kv ([] : List (κ × D))) : kv = [] := by
  cases kv with
  | nil => rfl
  | cons _ _ => cases h.1
theorem DRep.nil : DRep g H al ([] : List (κ × V)) ([] : List (κ × D)) := ⟨rfl, .nil⟩
theorem DRep.cons {k : κ} {v : V} {d : D} {kv : List (κ × V)} {kvs : List (κ × D)} (r : Rep g H al v d) (h : DRep g H al kv kvs) : DRep g H al ((k, v) :: kv) ((k, d) :: kvs) :=
  ⟨by rw [List.map_cons, List.map_cons, h.1], .cons r h.2⟩
theorem DRep.length {kv : List (κ × V)} {kvs : List (κ × D)} (h : DRep g H al kv kvs) : kv.length = kvs.length := by
  have := congrArg List.length h.1
  simpa using this
theorem DRep.at {k : κ} : ∀ {kvs : List (κ × D)} {kv : List (κ × V)}, DRep g H al kv kvs → (vAt kvs k = none ∧ valV kv k = none) ∨ ∃ d v, vAt kvs k = some d ∧ valV kv k = some v ∧ Rep g H al v d
  | [], kv, h => by rw [h.nil_inv]; exact .inl ⟨rfl, rfl⟩
  | (k', d) :: kvs, kv, h => by
    obtain ⟨v, kv', rfl, r, h'⟩ := h.inv
    by_cases e : k' = k
    · exact .inr ⟨d, v, by simp [vAt, List.find?_cons, e], valV_pos e, r⟩
    · have e1 : vAt ((k', d) :: kvs) k = vAt kvs k := by simp [vAt, List.find?_cons, e]
      rw [e1, valV_neg e]
      exact DRep.at h'
theorem DRep.any {k : κ} : ∀ {kvs : List (κ × D)} {kv : List (κ × V)}, DRep g H al kv kvs → (kv.any fun p => decide (p.1 = k)) = kvs.any fun p => decide (p.1 = k)
  | [], kv, h => by rw [h.nil_inv]; rfl
  | (k', d) :: kvs, kv, h => by
    obtain ⟨v, kv', rfl, r, h'⟩ := h.inv
    rw [List.any_cons, List.any_cons, DRep.any h']
theorem DRep.repl {k : κ} {v : V} {d : D} (r : Rep g H al v d) : ∀ {kvs : List (κ × D)} {kv : List (κ × V)}, DRep g H al kv kvs → DRep g H al (kv.map fun p => if p.1 = k then (p.1, v) else p) (kvs.map fun p => if p.1 = k then (p.1, d) else p)
  | [], kv, h => by rw [h.nil_inv]; exact .nil
  | (k', d') :: kvs, kv, h => by
    obtain ⟨v', kv', rfl, r', h'⟩ := h.inv
    rw [List.map_cons, List.map_cons]
    by_cases e : k' = k
    · rw [if_pos (show ((k', v') : κ × V).1 = k from e), if_pos (show ((k', d') : κ × D).1 = k from e)]
      exact .cons r (DRep.repl r h')
    · rw [if_neg (show ¬ ((k', v') : κ × V).1 = k from e), if_neg (show ¬ ((k', d') : κ × D).1 = k from e)]
      exact .cons r' (DRep.repl r h')
theorem DRep.snoc {k : κ} {v : V} {d : D} (r : Rep g H al v d) : ∀ {kvs : List (κ × D)} {kv : List (κ × V)}, DRep g H al kv kvs → DRep g H al (kv ++ [(k, v)]) (kvs ++ [(k, d)])
  | [], kv, h => by rw [h.nil_inv]; exact .cons r .nil
  | (k', d') :: kvs, kv, h => by
    obtain ⟨v', kv', rfl, r', h'⟩ := h.inv
    exact .cons r' (DRep.snoc r h')
theorem DRep.put {k : κ} {v : V} {d : D} {kvs : List (κ × D)} {kv : List (κ × V)} (h : DRep g H al kv kvs) (r : Rep g H al v d) : DRep g H al (putK kv k v) (vPut kvs k d) := by
  unfold putK vPut
  rw [h.any]
  split
  · exact h.repl r
  · exact h.snoc r
theorem DRep.drop {k : κ} : ∀ {kvs : List (κ × D)} {kv : List (κ × V)}, DRep g H al kv kvs → DRep g H al (dropK kv k) (vDrop kvs k)
  | [], kv, h => by rw [h.nil_inv]; exact .nil
  | (k', d') :: kvs, kv, h => by
    obtain ⟨v', kv', rfl, r', h'⟩ := h.inv
    unfold dropK vDrop
    rw [List.filter_cons, List.filter_cons]
    by_cases e : k' = k
    · rw [if_neg (by simpa using e), if_neg (by simpa using e)]
      exact DRep.drop h'
    · rw [if_pos (by simpa using e), if_pos (by simpa using e)]
      exact .cons r' (DRep.drop h')
theorem DRep.tr {H' : Hp} {al' : List Addr} {kvs : List (κ × D)} {kv : List (κ × V)} (h : DRep g H al kv kvs) (t : Tr g al H al' H') : DRep g H' al' kv kvs := ⟨h.1, h.2.tr t⟩
end
def keyK : D → Option Key
  | .int i => some (.inl i)
  | .str x => some (.inr x)
  | _ => none
theorem keyK_ok {d : D} {v : V} {k : Key} (r : Rep g H al v d) (h : keyK d = some k) : v = kV k := by
  cases d <;> first | (cases h; done) | skip
  · cases h; exact r.int_inv
  · cases h; exact r.str_inv
theorem keys_ok : ∀ {ds : List D} {vs : List V} {ks : List Key}, Reps g H al vs ds → allSome (ds.map keyK) = some ks → vs = ks.map kV
  | [], vs, ks, r, h => by
    cases r
    cases (show (some [] : Option (List Key)) = some ks from h)
    rfl
  | d :: ds, vs, ks, r, h => by
    cases r with
    | cons r1 r2 =>
      rw [List.map_cons] at h
      cases e : keyK d with
      | none => rw [e] at h; cases h
      | some k =>
        rw [e] at h
        obtain ⟨ks', e2, rfl⟩ := Option.map_eq_some_iff.mp (show (allSome (ds.map keyK)).map (k :: ·) = some ks from h)
        rw [keyK_ok r1 e, keys_ok r2 e2]
        rfl
/-- a tuple as a key -/
def keyT : D → Option (List Key)
  | .tup ds => if ktB = true then none else allSome (ds.map keyK)
  | _ => none
theorem keyT_ok {d : D} {v : V} {k : List Key} (r : Rep g H al v d) (h : keyT d = some k) : ∃ b, v = .ref b ∧ H b = some (.tup (k.map kV)) := by
  cases d <;> first | (cases h; done) | skip
  rename_i ds
  unfold keyT at h
  by_cases q : ktB = true
  · simp only [if_pos q] at h; cases h
  · simp only [if_neg q] at h
    cases r with
    | tupH e _ rs => exact ⟨_, rfl, by rw [e, keys_ok rs h]⟩
    | tupK z _ _ => exact absurd z q
/-- x, a dict: what it holds at y -/
def dgetO (x y : D) (s : Sto) : Option (Option D) := match x with
  | .ref n => match s[n]? with
    | some (.dK kvs) => (keyK y).map fun k => vAt kvs k
    | some (.dT kvs) => (keyT y).map fun k => vAt kvs k
    | some (.fK kvs) => (keyK y).map fun k => vAt kvs k
    | some (.fT kvs) => (keyT y).map fun k => vAt kvs k
    | _ => none
  | _ => none
theorem dgetO_ok {x y : D} {v w : V} {o : Option D} (st : StOk g H al s) (rx : Rep g H al v x) (ry : Rep g H al w y) (h : dgetO x y s = some o) :
    ∃ a ov, v = .ref a ∧ DGet H a w ov ∧ ((o = none ∧ ov = none) ∨ ∃ d u, o = some d ∧ ov = some u ∧ Rep g H al u d) := by
  unfold dgetO at h
  cases x <;> first | (cases h; done) | skip
  rename_i n
  cases rx with
  | ref hp =>
    rename_i p
    cases e : s[n]? with
    | none => simp only [e] at h; cases h
    | some c =>
      simp only [e] at h
      have cell := st.cell n _ _ hp e
      cases c with
      | lst _ => cases h
      | obj _ _ => cases h
      | dK kvs =>
        obtain ⟨k, ek, rfl⟩ := Option.map_eq_some_iff.mp h
        obtain ⟨kv, e1, e2, r2⟩ := cell
        have hk := keyK_ok ry ek
        subst hk
        have dr : DRep g H al kv kvs := ⟨e2, r2⟩
        refine ⟨p, valV kv k, rfl, .k e1, ?_⟩
        rcases dr.at (k := k) with ⟨a, b⟩ | ⟨d, u, a, b, c⟩
        · exact .inl ⟨a, b⟩
        · exact .inr ⟨d, u, a, b, c⟩
      | dT kvs =>
        obtain ⟨k, ek, rfl⟩ := Option.map_eq_some_iff.mp h
        obtain ⟨kv, e1, e2, r2⟩ := cell
        obtain ⟨b, rfl, hb⟩ := keyT_ok ry ek
        have dr : DRep g H al kv kvs := ⟨e2, r2⟩
        refine ⟨p, valV kv k, rfl, .t e1 hb, ?_⟩
        rcases dr.at (k := k) with ⟨a, b⟩ | ⟨d, u, a, b, c⟩
        · exact .inl ⟨a, b⟩
        · exact .inr ⟨d, u, a, b, c⟩
      | fK kvs =>
        obtain ⟨k, ek, rfl⟩ := Option.map_eq_some_iff.mp h
        obtain ⟨od, kv, e1, e2, r2⟩ := cell
        have hk := keyK_ok ry ek
        subst hk
        have dr : DRep g H al kv kvs := ⟨e2, r2⟩
        refine ⟨p, valV kv k, rfl, .inl ⟨kv, k, .inr ⟨od, e1⟩, rfl, rfl⟩, ?_⟩
        rcases dr.at (k := k) with ⟨a, b⟩ | ⟨d, u, a, b, c⟩
        · exact .inl ⟨a, b⟩
        · exact .inr ⟨d, u, a, b, c⟩
      | fT kvs =>
        obtain ⟨k, ek, rfl⟩ := Option.map_eq_some_iff.mp h
        obtain ⟨od, kv, e1, e2, r2⟩ := cell
        obtain ⟨b, rfl, hb⟩ := keyT_ok ry ek
        have dr : DRep g H al kv kvs := ⟨e2, r2⟩
        refine ⟨p, valV kv k, rfl, .inr ⟨kv, k, b, .inr ⟨od, e1⟩, rfl, hb, rfl⟩, ?_⟩
        rcases dr.at (k := k) with ⟨a, b⟩ | ⟨d, u, a, b, c⟩
        · exact .inl ⟨a, b⟩
        · exact .inr ⟨d, u, a, b, c⟩
/-- y in x, x a dict -/
def rInD (neg : Bool) : R2 := fun x y H Q => ∃ a o, y = .ref a ∧ DGet H a x o ∧ Q (.bl (neg ^^ o.isSome)) H
theorem op_inD (hu : X.A.units + 64 < cLine) : OpR X (compareOp .In) (rInD false) := by
  intro pins s σ H x y v u Q I rx ry ⟨a, o, ey, gt, q⟩
  subst ey
  obtain rfl : u = Value.ref a := ry
  exact d_in (by omega) I gt rx fun s3 I3 => ⟨.bl o.isSome, H, I3, rfl, by rw [Bool.false_xor] at q; exact q⟩
theorem op_ninD (hu : X.A.units + 64 < cLine) : OpR X (compareOp .NotIn) (rInD true) := by
  intro pins s σ H x y v u Q I rx ry ⟨a, o, ey, gt, q⟩
  subst ey
  obtain rfl : u = Value.ref a := ry
  exact d_notIn (by omega) I gt rx fun s3 I3 => ⟨.bl (!o.isSome), H, I3, rfl, by rw [Bool.true_xor] at q; exact q⟩
theorem ok_inD {x y : D} {v w : V} {o : Option D} {neg : Bool} {Q : VK} (st : StOk g H al s) (rx : Rep g H al v x) (ry : Rep g H al w y) (h : dgetO y x s = some o) (p : Post g E (Rep g) (.ok (.bl (neg ^^ o.isSome)) s) H al Q) : rInD neg v w H Q := by
  obtain ⟨a, ov, rfl, gt, hh⟩ := dgetO_ok st ry rx h
  refine ⟨a, ov, rfl, gt, ?_⟩
  have e : ov.isSome = o.isSome := by rcases hh with ⟨rfl, rfl⟩ | ⟨d, u, rfl, rfl, _⟩ <;> rfl
  rw [e]
  exact p _ _ _ .refl st (.bl _)
/-- x[y], x a dict -/
def rIxD : R2 := fun x y H Q => ∃ a v, x = .ref a ∧ DGet H a y (some v) ∧ Q v H
open PySem.Spec PyProof.Rows in
theorem ix_dict (hu : X.A.units + 64 < cLine) : IxR X rIxD := by
  intro value slice pins s σ H x y v u Q I rx ry ⟨a, w, ex, gt, q⟩ hs
  subst ex
  obtain rfl : v = Value.ref a := rx
  have hT := dict_typeIs I gt
  unfold subscriptTail
  refine wpAny_bind ?_
  rw [getitemInPython_of_ne hT.not_modules]
  refine wpAny_bind (wpAny_specialOf hT PySem.F.slot_dict_getitem.lookup ?_)
  have fin : wpAny (model X.prog X.w) X.A (subscripted slice false (.ref a) u) (fun r s₃ => wpAny (model X.prog X.w) X.A (letTemporaryGo value (.ref a) r >>= fun _ => pure r) (EP X pins σ Q) X.xe s₃) X.xe s := by
    rw [hs]
    exact wpAny_operating (wpAny_mono (d_getItem (Q := EP X pins σ Q) (by omega) I gt ry fun w' s3 I3 rw' => ⟨w, H, I3, rw', q⟩) (fun r s₃ h₃ => wpAny_bind (wpAny_letTemporaryGo (wpAny_pure h₃))) fun _ _ x => x)
  first
    | exact wpAny_pure (wpAny_bind fin)
    | exact wpAny_bind (wpAny_pure (wpAny_bind fin))
    | exact wpAny_bind fin
theorem ok_ixD {x y : D} {v w : V} {d : D} {Q : VK} (st : StOk g H al s) (rx : Rep g H al v x) (ry : Rep g H al w y) (h : dgetO x y s = some (some d)) (p : Post g E (Rep g) (.ok d s) H al Q) : rIxD v w H Q := by
  obtain ⟨a, ov, rfl, gt, hh⟩ := dgetO_ok st rx ry h
  rcases hh with ⟨e, _⟩ | ⟨d', u, e, rfl, r⟩
  · cases e
  · cases e
    exact ⟨a, u, rfl, gt, p _ _ _ .refl st r⟩
def dputS (x y d : D) (s : Sto) : Option Sto := match x with
  | .ref n => match s[n]? with
    | some (.dK kvs) => (keyK y).bind fun k => if kvs.length < sizeLine then some (s.set n (.dK (vPut kvs k d))) else none
    | some (.dT kvs) => (keyT y).bind fun k => if kvs.length < sizeLine then some (s.set n (.dT (vPut kvs k d))) else none
    | _ => none
  | _ => none
theorem dputS_ok {x y d : D} {v w u : V} {s' : Sto} (st : StOk g H al s) (rx : Rep g H al v x) (ry : Rep g H al w y) (rd : Rep g H al u d) (h : dputS x y d s = some s') :
    ∃ a H', v = .ref a ∧ DPut H a w u H' ∧ Tr g al H al H' ∧ StOk g H' al s' := by
  unfold dputS at h
  cases x <;> first | (cases h; done) | skip
  rename_i n
  cases rx with
  | ref hp =>
    rename_i p
    cases e : s[n]? with
    | none => simp only [e] at h; cases h
    | some c =>
      simp only [e] at h
      have cell := st.cell n _ _ hp e
      cases c with
      | lst _ => cases h
      | obj _ _ => cases h
      | fK _ => cases h
      | fT _ => cases h
      | dK kvs =>
        obtain ⟨k, ek, h⟩ := Option.bind_eq_some_iff.mp h
        obtain ⟨kv, e1, e2, r2⟩ := cell
        have hk := keyK_ok ry ek
        subst hk
        have dr : DRep g H al kv kvs := ⟨e2, r2⟩
        by_cases hl : kvs.length < sizeLine
        · rw [if_pos hl] at h; cases h
          have t : Tr g al H al (upd H p (.dK (putK kv k u))) := .write hp e1 (fun _ _ z => nomatch z)
          have dr' := (dr.put (k := k) rd).tr t
          exact ⟨p, _, rfl, .k e1 (by rw [dr.length]; exact hl), t, st.write hp ⟨_, upd_same, dr'.1, dr'.2⟩⟩
        · rw [if_neg hl] at h; cases h
      | dT kvs =>
        obtain ⟨k, ek, h⟩ := Option.bind_eq_some_iff.mp h
        obtain ⟨kv, e1, e2, r2⟩ := cell
        obtain ⟨b, rfl, hb⟩ := keyT_ok ry ek
        have dr : DRep g H al kv kvs := ⟨e2, r2⟩
        by_cases hl : kvs.length < sizeLine
        · rw [if_pos hl] at h; cases h
          have t : Tr g al H al (upd H p (.dT (putK kv k u))) := .write hp e1 (fun _ _ z => nomatch z)
          have dr' := (dr.put (k := k) rd).tr t
          exact ⟨p, _, rfl, .t e1 hb (by rw [dr.length]; exact hl), t, st.write hp ⟨_, upd_same, dr'.1, dr'.2⟩⟩
        · rw [if_neg hl] at h; cases h
def rSetD : TSet := fun o i v H Q => ∃ a H', o = .ref a ∧ DPut H a i v H' ∧ Q H'
theorem set_dict (hu : X.A.units + 64 < cLine) : PSet X rSetD := by
  intro pins s σ H o i v ov iv u Q I ro ri rv ⟨a, H', eo, gt, q⟩
  subst eo
  obtain rfl : ov = Value.ref a := ro
  exact d_setItem (by omega) I gt ri rv fun s4 I4 => ⟨H', I4, q⟩
section
variable {prog : Program} {w : World} {A : Around} {E0 : Value → Shared → Prop} {s0 : Shared}
theorem len_body_raw {d : Addr} {es : Array DictEntry} {ep : Nat} {Q : Value → Shared → Prop} (hd : (d == sysModules) = false) (hm : s0.heap.DictRaw d es ep) (hfit : (es.size : Int) < 2 ^ 63)
    (h : Q (.int es.size (s0.toks + 1)) { s0 with toks := s0.toks + 1 + 1 }) : wpAny (model prog w) A (Builtin.«len» ⟨[.ref d], []⟩) (fun fin s' => ∃ r, fin = .done (.ret r) ∧ Q r s') E0 s0 := by
  unfold Builtin.«len»
  refine wpAny_bind (m := oneArg "len" _) (wpAny_pure ?_)
  refine wpAny_bind (m := callSpecial? (.ref d) (Str.ofString "__len__")) (wpAny_callSpecial?_slot (name := Str.ofString "__len__") hm.typeIs F.slot_dict_len
    (call_len_raw hd hm ?_))
  show wpAny _ _ _ _ _ { s0 with toks := s0.toks + 1 }
  refine wpAny_bind (wpAny_holding (wpAny_pure ?_))
  refine wpAny_bind (wpAny_letGo ?_)
  show wpAny _ _ (if ((es.size : Nat) : Int) < 0 then _ else _) _ _ _
  rw [if_neg (by omega)]
  show wpAny _ _ (if ((es.size : Nat) : Int) ≥ 2 ^ 63 then _ else _) _ _ _
  rw [if_neg (by omega)]
  exact wpAny_bind (wpAny_mkInt (wpAny_pure ⟨_, rfl, h⟩))
theorem call_len_draw {d : Addr} {es : Array DictEntry} {ep : Nat} {Q : Value → Shared → Prop} (hd : (d == sysModules) = false) (hm : s0.heap.DictRaw d es ep) (hfit : (es.size : Int) < 2 ^ 63)
    (h : Q (.int es.size (s0.toks + 1)) { s0 with toks := s0.toks + 1 + 1 }) : wpAny (model prog w) A (call (.builtin "len") [.ref d]) Q E0 s0 :=
  Calls.call_function_entry kind_len plain_len entry_len (args_len1 _) (len_body_raw hd hm hfit h)
end
def rLenD : List V → Hp → VK → Prop := fun xs H Q => ∃ a n, xs = [V.ref a] ∧ ((∃ kvs, Rd H a (.dK kvs) ∧ n = kvs.length) ∨ ∃ kvs, Rd H a (.dT kvs) ∧ n = kvs.length) ∧ Q (.int (n : Nat)) H
theorem cr_lenD : CallR X (.builtin "len") rLenD := by
  intro pins s σ H xs us Q I r h
  obtain ⟨a, n, rfl, hd, q⟩ := h
  obtain ⟨u, rfl, ru⟩ := Vals.one r
  obtain rfl : u = Value.ref a := ru
  rcases hd with ⟨kvs, e, rfl⟩ | ⟨kvs, e, rfl⟩
  · exact d_len I e fun t s' I' => ⟨.int kvs.length, H, I', ⟨t, rfl⟩, q⟩
  · obtain ⟨z, hd, xs, rel, dd⟩ := dt_rd I.hok e
    obtain ⟨es, ep, hr, hs, _⟩ := dd.raw
    have hl : kvs.length = xs.length := Paired.length rel
    refine call_len_draw hd hr (by rw [sizeLine_eq] at z; omega) ?_
    exact ⟨.int kvs.length, H, I.tok _, ⟨s.toks + 1, by rw [hs, ← hl]⟩, q⟩
def dictN (x : D) (s : Sto) : Option Nat := match x with
  | .ref n => match s[n]? with
    | some (.dK kvs) => some kvs.length
    | some (.dT kvs) => some kvs.length
    | some (.fK kvs) => some kvs.length
    | some (.fT kvs) => some kvs.length
    | _ => none
  | _ => none
theorem dictN_ok {x : D} {v : V} {m : Nat} (st : StOk g H al s) (rx : Rep g H al v x) (h : dictN x s = some m) : ∃ a, v = .ref a ∧ ((∃ kvs, Rd H a (.dK kvs) ∧ m = kvs.length) ∨ ∃ kvs, Rd H a (.dT kvs) ∧ m = kvs.length) := by
  unfold dictN at h
  cases x <;> first | (cases h; done) | skip
  rename_i n
  cases rx with
  | ref hp =>
    rename_i p
    cases e : s[n]? with
    | none => simp only [e] at h; cases h
    | some c =>
      simp only [e] at h
      have cell := st.cell n _ _ hp e
      cases c with
      | lst _ => cases h
      | obj _ _ => cases h
      | dK kvs => cases h; obtain ⟨kv, e1, e2, r2⟩ := cell; exact ⟨p, rfl, .inl ⟨kv, .inl e1, by have := congrArg List.length e2; simpa using this.symm⟩⟩
      | dT kvs => cases h; obtain ⟨kv, e1, e2, r2⟩ := cell; exact ⟨p, rfl, .inr ⟨kv, .inl e1, by have := congrArg List.length e2; simpa using this.symm⟩⟩
      | fK kvs => cases h; obtain ⟨od, kv, e1, e2, r2⟩ := cell; exact ⟨p, rfl, .inl ⟨kv, .inr ⟨od, e1⟩, by have := congrArg List.length e2; simpa using this.symm⟩⟩
      | fT kvs => cases h; obtain ⟨od, kv, e1, e2, r2⟩ := cell; exact ⟨p, rfl, .inr ⟨kv, .inr ⟨od, e1⟩, by have := congrArg List.length e2; simpa using this.symm⟩⟩
def rDGet : V → List V → Hp → VK → Prop := fun x xs H Q => (∃ a y o, x = .ref a ∧ xs = [y] ∧ DGet H a y o ∧ Q (o.getD .non) H) ∨ ∃ a y z o, x = .ref a ∧ xs = [y, z] ∧ DGet H a y o ∧ Q (o.getD z) H
theorem mt_dget (hu : X.A.units + 64 < cLine) : MtR X "dict.get" rDGet := by
  intro pins s σ H x xs v us Q I rx rs h
  rcases h with ⟨a, y, o, rfl, rfl, gt, q⟩ | ⟨a, y, z, o, rfl, rfl, gt, q⟩
  · obtain rfl : v = Value.ref a := rx
    obtain ⟨u, rfl, ru⟩ := Vals.one rs
    exact d_get1 (by omega) I gt ru fun w' s3 I3 rw' => ⟨_, H, I3, rw', q⟩
  · obtain rfl : v = Value.ref a := rx
    obtain ⟨u, u2, rfl, ru, ru2⟩ := Vals.two rs
    exact d_get2 (by omega) I gt ru ru2 fun w' s3 I3 rw' => ⟨_, H, I3, rw', q⟩
def rDSetd : V → List V → Hp → VK → Prop := fun x xs H Q => ∃ a k z kvs, x = .ref a ∧ xs = [kV k, z] ∧ H a = some (.dK kvs) ∧ kvs.length < sizeLine ∧ (∀ v, valV kvs k = some v → Q v H) ∧ (valV kvs k = none → Q z (upd H a (.dK (putK kvs k z))))
theorem mt_dsetd : MtR X "dict.setdefault" rDSetd := by
  intro pins s σ H x xs v us Q I rx rs ⟨a, k, z, kvs, ex, exs, ea, hl, q1, q2⟩
  subst ex; subst exs
  obtain rfl : v = Value.ref a := rx
  obtain ⟨u, u2, rfl, ru, ru2⟩ := Vals.two rs
  exact d_setd I ea ru ru2 hl (fun v hv w' s4 I4 rw' => ⟨v, _, I4, rw', q1 v hv⟩) fun hn w' s4 I4 rw' => ⟨z, _, I4, rw', q2 hn⟩
def rDPop : V → List V → Hp → VK → Prop := fun x xs H Q => (∃ a k kvs v, x = .ref a ∧ xs = [kV k] ∧ H a = some (.dK kvs) ∧ valV kvs k = some v ∧ Q v (upd H a (.dK (dropK kvs k)))) ∨
  ∃ a k z kvs, x = .ref a ∧ xs = [kV k, z] ∧ H a = some (.dK kvs) ∧ (∀ v, valV kvs k = some v → Q v (upd H a (.dK (dropK kvs k)))) ∧ (valV kvs k = none → Q z H)
theorem mt_dpop : MtR X "dict.pop" rDPop := by
  intro pins s σ H x xs v us Q I rx rs h
  rcases h with ⟨a, k, kvs, y, ex, exs, ea, l, q⟩ | ⟨a, k, z, kvs, ex, exs, ea, q1, q2⟩
  · subst ex; subst exs
    obtain rfl : v = Value.ref a := rx
    obtain ⟨u, rfl, ru⟩ := Vals.one rs
    exact d_pop I ea ru l (.inl rfl) fun w' s3 I3 rw' => ⟨y, _, I3, rw', q⟩
  · subst ex; subst exs
    obtain rfl : v = Value.ref a := rx
    obtain ⟨u, u2, rfl, ru, ru2⟩ := Vals.two rs
    cases l : valV kvs k with
    | some v => exact d_pop I ea ru l (.inr ⟨u2, rfl⟩) fun w' s4 I4 rw' => ⟨v, _, I4, rw', q1 v l⟩
    | none => exact d_popD I ea ru l fun s4 I4 => ⟨z, H, I4, ru2, q2 l⟩
def rDUpd : V → List V → Hp → VK → Prop := fun x xs H Q => ∃ a b kvs more, x = .ref a ∧ xs = [.ref b] ∧ a ≠ b ∧ H a = some (.dK kvs) ∧ H b = some (.dK more) ∧ kvs.length + more.length ≤ sizeLine ∧ Q .non (upd H a (.dK (mergeK kvs more)))
theorem mt_dupd : MtR X "dict.update" rDUpd := by
  intro pins s σ H x xs v us Q I rx rs ⟨a, b, kvs, more, ex, exs, hab, ea, eb, hl, q⟩
  subst ex; subst exs
  obtain rfl : v = Value.ref a := rx
  obtain ⟨u, rfl, ru⟩ := Vals.one rs
  obtain rfl : u = Value.ref b := ru
  obtain ⟨z, hd, vs, rel, dd⟩ := dk_of I.hok ea
  obtain ⟨z2, hd2, vs2, rel2, dd2⟩ := dk_of I.hok eb
  refine call_meetsIn PySem.F.slot_dict_update dd.typeIs PySem.F.entry_dict_update (PySem.F.args_dict_update_2 _ _) (meets_dict_update (mixKind X.prog X.w) a b hab hd2) ⟨vs, vs2, dd, dd2, by rw [← rel.length, ← rel2.length]; exact hl, fun h' dd' dd2' hs => ?_⟩
  have hl2 : (mergeK kvs more).length ≤ sizeLine := by
    have := length_mergeK more kvs
    omega
  have he : ∃ q, h'.get? a = some q := let ⟨q, _, _, hq, _⟩ := dd'; ⟨q, hq⟩
  exact ⟨.non, _, d_write (t' := s.toks) I (by rw [ea]; exact True.intro) hs he (dk_new hl2 hd (rel2.merge rel) dd'), rfl, q⟩
def mergeD (kvs more : List (Key × D)) : List (Key × D) := more.foldl (fun acc kv => vPut acc kv.1 kv.2) kvs
theorem DRep.merge : ∀ {more : List (Key × D)} {mv : List (Key × V)} {kvs : List (Key × D)} {kv : List (Key × V)}, DRep g H al mv more → DRep g H al kv kvs → DRep g H al (mergeK kv mv) (mergeD kvs more)
  | [], mv, kvs, kv, h, h2 => by rw [h.nil_inv]; exact h2
  | (k, d) :: more, mv, kvs, kv, h, h2 => by
    obtain ⟨v, mv', rfl, r, h'⟩ := h.inv
    exact DRep.merge (more := more) (kvs := vPut kvs k d) (kv := putK kv k v) h' (h2.put r)
end Mx
namespace Mx
open PySem L2
variable {g : G} {E : XK} {X : Cx} {H : Hp} {al : List Addr} {s : Sto} {σ : St} {ρ : Ro}
def itemsOf : D → Sto → Option (List D)
  | .tup ds, _ => some ds
  | x, s => asL x s
def memD (x y : D) (s : Sto) : Option Bool := match itemsOf y s with
  | some ds => match toPy s 59 x, allSome (ds.map (toPy s 58)) with
    | some a, some bs => some (bs.any fun z => PyData.eqv z a)
    | _, _ => none
  | none => none
def inS (a z : Str) : Bool := match a.cps.toList with
  | [c] => decide (c ∈ z.cps.toList)
  | _ => !(Builtin.Str.occurrences z a 0 z.length 1).isEmpty
def inD : D → D → Sto → Rs D
  | .str a, .str z, s => .ok (D.bl (inS a z)) s
  | x, y, s => match memD x y s with
    | some b => .ok (D.bl b) s
    | none => match dgetO y x s with
      | some o => .ok (.bl (false ^^ o.isSome)) s
      | none => .bad
def ninD : D → D → Sto → Rs D
  | .str a, .str z, s => .ok (D.bl (!inS a z)) s
  | x, y, s => match memD x y s with
    | some b => .ok (D.bl (!b)) s
    | none => match dgetO y x s with
      | some o => .ok (.bl (true ^^ o.isSome)) s
      | none => .bad
def rInP (K : PySem.W.Frag) (neg : Bool) : R2 := fun x y H Q =>
  (∃ a z, x = .str a ∧ y = .str z ∧ Q (.bl (neg ^^ inS a z)) H) ∨
  ∃ d ds, Dp K H x d ∧ (Dp K H y (.list ds) ∨ Dp K H y (.tuple ds)) ∧ d.plain = true ∧ PyData.plainAll ds = true ∧ d.depth ≤ 59 ∧ Q (.bl (neg ^^ ds.any fun z => PyData.eqv z d)) H
theorem str1 {a : Str} {c : Nat} (h : a.cps.toList = [c]) : a = ⟨#[c]⟩ := by
  cases a with
  | mk x => congr; exact Array.ext' (by simpa using h)
theorem op_inP (hu : X.A.units + 64 < cLine) : OpR X (compareOp .In) (rInP X.K false) := by
  intro pins s σ H x y v u Q I rx ry h
  rcases h with ⟨a, z, rfl, rfl, q⟩ | ⟨d, ds, hd, he, sd, se, hz, q⟩
  · rw [Bool.false_xor] at q
    unfold inS at q
    split at q
    · rename_i c e
      cases str1 e
      exact op_in_sign pins s σ H _ _ v u Q I rx ry ⟨c, z, rfl, rfl, q⟩
    · exact op_in_str pins s σ H _ _ v u Q I rx ry ⟨a, z, rfl, rfl, q⟩
  · rw [Bool.false_xor] at q
    obtain ⟨as, r1⟩ := Dp.reads I d x v hd rx
    have e : ∀ m : Nat, X.A.units + 1 + min m d.depth < cLine := fun m => by omega
    rcases he with he | he
    · obtain ⟨bs, r2⟩ := Dp.reads I (.list ds) y u he ry
      exact SeqAt.in_list_data r2 r1 se sd (e _) ⟨.bl _, H, I, rfl, q⟩
    · obtain ⟨bs, r2⟩ := Dp.reads I (.tuple ds) y u he ry
      exact SeqAt.in_tuple_data r2 r1 se sd (e _) ⟨.bl _, H, I, rfl, q⟩
theorem op_ninP (hu : X.A.units + 64 < cLine) : OpR X (compareOp .NotIn) (rInP X.K true) := by
  intro pins s σ H x y v u Q I rx ry h
  rcases h with ⟨a, z, rfl, rfl, q⟩ | ⟨d, ds, hd, he, sd, se, hz, q⟩
  · rw [Bool.true_xor] at q
    unfold inS at q
    split at q
    · rename_i c e
      cases str1 e
      exact op_notIn_sign pins s σ H _ _ v u Q I rx ry ⟨c, z, rfl, rfl, q⟩
    · exact op_notIn_str pins s σ H _ _ v u Q I rx ry ⟨a, z, rfl, rfl, q⟩
  · rw [Bool.true_xor] at q
    obtain ⟨as, r1⟩ := Dp.reads I d x v hd rx
    have e : ∀ m : Nat, X.A.units + 1 + min m d.depth < cLine := fun m => by omega
    rcases he with he | he
    · obtain ⟨bs, r2⟩ := Dp.reads I (.list ds) y u he ry
      exact SeqAt.notIn_list_data r2 r1 se sd (e _) ⟨.bl _, H, I, rfl, q⟩
    · obtain ⟨bs, r2⟩ := Dp.reads I (.tuple ds) y u he ry
      exact SeqAt.notIn_tuple_data r2 r1 se sd (e _) ⟨.bl _, H, I, rfl, q⟩
theorem memD_ok {x y : D} {v w : V} {b : Bool} (st : StOk g H al s) (rx : Rep g H al v x) (ry : Rep g H al w y) (h : memD x y s = some b) :
    ∃ d ds, Dp g.K H v d ∧ (Dp g.K H w (.list ds) ∨ Dp g.K H w (.tuple ds)) ∧ d.plain = true ∧ PyData.plainAll ds = true ∧ d.depth ≤ 59 ∧ b = ds.any fun z => PyData.eqv z d := by
  unfold memD at h
  cases e0 : itemsOf y s with
  | none => rw [e0] at h; cases h
  | some ds =>
    rw [e0] at h
    cases e1 : toPy s 59 x with
    | none => rw [e1] at h; cases h
    | some a =>
      cases e2 : allSome (ds.map (toPy s 58)) with
      | none => simp only [e1, e2] at h; cases h
      | some bs =>
        simp only [e1, e2] at h; cases h
        obtain ⟨a1, a2, a3⟩ := dp_of st 59 x v a e1 rx
        have tupcase : ∀ es, y = .tup es → es = ds → Dp g.K H w (.tuple bs) ∧ PyData.plainAll bs = true := fun es e e' => by
          subst e; subst e'
          obtain ⟨pa, vs, rfl, sq, rs⟩ := tup_ok ry
          obtain ⟨b1, b2, b3⟩ := dpAll_of (dp_of st 58) es _ bs e2 rs
          exact ⟨.tup sq b1, b2⟩
        by_cases hy : ∃ es, y = .tup es
        · obtain ⟨es, rfl⟩ := hy
          have := tupcase es rfl (Option.some.inj e0)
          exact ⟨a, bs, a1, .inr this.1, a2, this.2, a3, rfl⟩
        · have e0' : asL y s = some ds := by
            cases y <;> first | exact e0 | exact absurd ⟨_, rfl⟩ hy
          obtain ⟨pa, vs, rfl, sq, rs⟩ := asL_ok st ry e0'
          obtain ⟨b1, b2, b3⟩ := dpAll_of (dp_of st 58) ds _ bs e2 rs
          exact ⟨a, bs, a1, .inl (.lst sq b1), a2, b2, a3, rfl⟩
theorem ok_in (hK : g.K = X.K) : OpOk g E (fun x y H Q => rInP X.K false x y H Q ∨ rInD false x y H Q) inD := by
  intro H al s x y v w Q st rx ry p
  unfold inD at p
  split at p
  · cases rx.str_inv; cases ry.str_inv
    exact .inl (.inl ⟨_, _, rfl, rfl, p _ _ _ .refl st (by rw [Bool.false_xor]; exact .bl _)⟩)
  · cases e : memD x y s with
    | none =>
      rw [e] at p
      dsimp only at p
      split at p
      · rename_i o eo
        exact .inr (ok_inD st rx ry eo p)
      · exact p.elim
    | some b =>
      rw [e] at p
      obtain ⟨d, ds, h1, h2, h3, h4, h5, rfl⟩ := memD_ok st rx ry e
      rw [hK] at h1 h2
      exact .inl (.inr ⟨d, ds, h1, h2, h3, h4, h5, p _ _ _ .refl st (by rw [Bool.false_xor]; exact .bl _)⟩)
theorem ok_nin (hK : g.K = X.K) : OpOk g E (fun x y H Q => rInP X.K true x y H Q ∨ rInD true x y H Q) ninD := by
  intro H al s x y v w Q st rx ry p
  unfold ninD at p
  split at p
  · cases rx.str_inv; cases ry.str_inv
    exact .inl (.inl ⟨_, _, rfl, rfl, p _ _ _ .refl st (by rw [Bool.true_xor]; exact .bl _)⟩)
  · cases e : memD x y s with
    | none =>
      rw [e] at p
      dsimp only at p
      split at p
      · rename_i o eo
        exact .inr (ok_inD st rx ry eo p)
      · exact p.elim
    | some b =>
      rw [e] at p
      obtain ⟨d, ds, h1, h2, h3, h4, h5, rfl⟩ := memD_ok st rx ry e
      rw [hK] at h1 h2
      exact .inl (.inr ⟨d, ds, h1, h2, h3, h4, h5, p _ _ _ .refl st (by rw [Bool.true_xor]; exact .bl _)⟩)
def isNon : D → Bool
  | .non => true
  | _ => false
theorem isNon_ok {x : D} {v : V} (r : Rep g H al v x) : decide (v = .non) = isNon x := by
  cases r <;> first | rfl | exact decide_eq_false (fun z => by cases z)
def isD : D → D → Sto → Rs D
  | x, .non, s => .ok (D.bl (isNon x)) s
  | _, _, _ => .bad
def nisD : D → D → Sto → Rs D
  | x, .non, s => .ok (D.bl (!isNon x)) s
  | _, _, _ => .bad
theorem ok_is : OpOk g E (fun x y H Q => y = .non ∧ Q (.bl (decide (x = .non))) H) isD := by
  intro H al s x y v w Q st rx ry p
  cases y <;> first | exact p.elim | skip
  cases ry.non_inv
  exact ⟨rfl, p _ _ _ .refl st (by rw [isNon_ok rx]; exact .bl _)⟩
theorem ok_nis : OpOk g E (fun x y H Q => y = .non ∧ Q (.bl (!decide (x = .non))) H) nisD := by
  intro H al s x y v w Q st rx ry p
  cases y <;> first | exact p.elim | skip
  cases ry.non_inv
  exact ⟨rfl, p _ _ _ .refl st (by rw [isNon_ok rx]; exact .bl _)⟩
def blD : D → Sto → Rs Bool
  | .bl b, s => .ok b s
  | _, _ => .bad
def mTest (a : MD D) : MD Bool := fun ρ s => (a ρ s).bind blD
def mNot (a : MD D) : MD D := fun ρ s => (a ρ s).bind fun x s => (blD x s).bind fun b s => .ok (D.bl (!b)) s
def mAnd (a b : MD D) : MD D := fun ρ s => (a ρ s).bind fun x s => (blD x s).bind fun c s => if c = true then (b ρ s).bind fun y s => (blD y s).bind fun d s => .ok (D.bl d) s else .ok (D.bl false) s
def mOr (a b : MD D) : MD D := fun ρ s => (a ρ s).bind fun x s => (blD x s).bind fun c s => if c = true then .ok (D.bl true) s else (b ρ s).bind fun y s => (blD y s).bind fun d s => .ok (D.bl d) s
theorem blD_ok {δ ε : Type} {rel : Hp → List Addr → δ → ε → Prop} {x : D} {v : V} {k : Bool → Sto → Rs ε} {Q : δ → Hp → Prop} (r : Rep g H al v x) (p : Post g E rel ((blD x s).bind k) H al Q) : ∃ b, x = .bl b ∧ v = .bl b ∧ Post g E rel (k b s) H al Q := by
  cases x <;> first | exact p.elim | skip
  exact ⟨_, rfl, r.bl_inv, p⟩
section
variable {a b e : Expr} {ma mb mc : MD D} {pos : Pos}
theorem me_not (ha : PE X a (TX g E ma)) : PE X (.UnaryOp .Not a pos) (TX g E (mNot ma)) :=
  pe_mono (pe_not ha) fun σ H Q h => TG.bind (k := fun x ρ s => (blD x s).bind fun b s => .ok (D.bl (!b)) s) h fun d v H1 al1 ρ s1 e st rp p => by
    obtain ⟨c, rfl, rfl, p⟩ := blD_ok rp p
    exact ⟨c, rfl, p _ _ _ .refl st (.bl _)⟩
theorem bl_again {b : Bool} {Q : VK} {m : MD D} {s1 : Sto} {H1 : Hp} {al1 : List Addr} (e : EnvR g H1 al1 σ ρ) (st : StOk g H1 al1 s1)
    (p : Post g E (Rep g) ((m ρ s1).bind fun y s => (blD y s).bind fun d s => .ok (D.bl d) s) H1 al1 Q) : TX g E m σ H1 Q :=
  ⟨ρ, al1, s1, e, st, Post.bind p fun d2 s2 w H2 al2 _ t st2 rp2 p2 => by
    obtain ⟨c, rfl, rfl, p2⟩ := blD_ok rp2 p2
    exact p2 _ _ _ .refl st2 (.bl _)⟩
theorem me_and {rest : List Expr} (ha : PE X a (TX g E ma)) (hb : PE X (.BoolOp .And (b :: rest) pos) (TX g E mb)) : PE X (.BoolOp .And (a :: b :: rest) pos) (TX g E (mAnd ma mb)) :=
  pe_mono (pe_and ha hb) fun σ H Q h => TG.bind (k := fun x ρ s => (blD x s).bind fun c s => if c = true then (mb ρ s).bind fun y s => (blD y s).bind fun d s => .ok (D.bl d) s else .ok (D.bl false) s) h fun d v H1 al1 ρ s1 e st rp p => by
    obtain ⟨c, rfl, rfl, p⟩ := blD_ok rp p
    refine ⟨c, rfl, ?_⟩
    cases c with
    | true => rw [if_pos rfl] at p ⊢; exact bl_again (b := true) e st p
    | false => rw [if_neg Bool.false_ne_true] at p ⊢; exact p _ _ _ .refl st (.bl _)
theorem me_or {rest : List Expr} (ha : PE X a (TX g E ma)) (hb : PE X (.BoolOp .Or (b :: rest) pos) (TX g E mb)) : PE X (.BoolOp .Or (a :: b :: rest) pos) (TX g E (mOr ma mb)) :=
  pe_mono (pe_or ha hb) fun σ H Q h => TG.bind (k := fun x ρ s => (blD x s).bind fun c s => if c = true then .ok (D.bl true) s else (mb ρ s).bind fun y s => (blD y s).bind fun d s => .ok (D.bl d) s) h fun d v H1 al1 ρ s1 e st rp p => by
    obtain ⟨c, rfl, rfl, p⟩ := blD_ok rp p
    refine ⟨c, rfl, ?_⟩
    cases c with
    | true => rw [if_pos rfl] at p ⊢; exact p _ _ _ .refl st (.bl _)
    | false => rw [if_neg Bool.false_ne_true] at p ⊢; exact bl_again (b := true) e st p
/-- a value that is a bool, as a test -/
theorem mt_val (h : PE X e (TX g E ma)) (he : ∀ whole, isTrue e X.env whole = (do let v ← whole; standAt e.pos; holding [v] (truthy v))) : PT X e (TXb g E (mTest ma)) :=
  pt_mono (pt_val h he) fun σ H Q h => TG.bind (k := fun x _ s => blD x s) h fun d v H1 al1 ρ s1 e st rp p => by
    have p' : Post g E (fun _ _ (b c : Bool) => b = c) ((blD d s1).bind fun b s => .ok b s) H1 al1 Q := by
      cases d <;> first | exact p | exact p.elim
    obtain ⟨c, rfl, rfl, p'⟩ := blD_ok rp p'
    exact ⟨c, rfl, p' _ _ _ .refl st rfl⟩
/-- from a test's own reading -/
theorem TXb.mk {m : MD D} {Q : Bool → Hp → Prop} (h : TXb g E (mTest m) σ H Q) : ∃ ρ al s, EnvR g H al σ ρ ∧ StOk g H al s ∧ Post g E (fun _ _ (b c : Bool) => b = c) ((m ρ s).bind blD) H al Q := h
theorem post_bl {Q : Bool → Hp → Prop} {c : Bool} (p : Post g E (fun _ _ (b c : Bool) => b = c) (blD (.bl c) s) H al Q) (st : StOk g H al s) : Q c H := p c H al .refl st rfl
theorem mt_not (ha : PT X a (TXb g E (mTest ma))) : PT X (.UnaryOp .Not a pos) (TXb g E (mTest (mNot ma))) :=
  pt_mono (pt_not ha) fun σ H Q ⟨ρ, al, s, e, st, p⟩ => by
    refine ⟨ρ, al, s, e, st, ?_⟩
    unfold mTest mNot at *
    cases h : ma ρ s with
    | bad => rw [h] at p; exact p
    | exc c ds s' => rw [h] at p; exact p
    | ok d s' =>
      rw [h] at p
      cases d <;> first | exact p | skip
      intro v H' al' t st' ev
      subst ev
      exact p _ H' al' t st' rfl
theorem mt_and {rest : List Expr} (ha : PT X a (TXb g E (mTest ma))) (hb : PW X (.BoolOp .And (b :: rest) pos) (TXb g E (mTest mb))) : PW X (.BoolOp .And (a :: b :: rest) pos) (TXb g E (mTest (mAnd ma mb))) := by
  have h := pw_and (pos := pos) ha hb
  refine ⟨fun wh pins s σ H Q I q => h.run wh pins s σ H Q I ?_⟩
  obtain ⟨ρ, al, s, e, st, p⟩ := q
  refine ⟨ρ, al, s, e, st, ?_⟩
  unfold mTest mAnd at p
  unfold mTest
  cases h : ma ρ s with
  | bad => rw [h] at p; exact p
  | exc c ds s' => rw [h] at p; exact p
  | ok d s' =>
    rw [h] at p
    cases d <;> first | exact p | skip
    rename_i c
    intro v H' al' t st' ev
    subst ev
    cases v with
    | false => rw [if_neg Bool.false_ne_true]; exact p _ H' al' t st' rfl
    | true =>
      rw [if_pos rfl]
      have p' : Post g E (fun _ _ (b c : Bool) => b = c) (((mb ρ s').bind fun y s => (blD y s).bind fun d s => .ok (D.bl d) s).bind blD) H al Q := p
      refine ⟨ρ, al', s', e.tr t, st', ?_⟩
      show Post g E (fun _ _ (b c : Bool) => b = c) ((mb ρ s').bind blD) H' al' Q
      cases h2 : mb ρ s' with
      | bad => rw [h2] at p'; exact p'
      | exc c ds s2 => rw [h2] at p'; exact fun c d H2 al2 t2 => p' c d H2 al2 (t.trans t2)
      | ok d s2 =>
        rw [h2] at p'
        cases d <;> first | exact p' | skip
        exact fun v H2 al2 t2 => p' v H2 al2 (t.trans t2)
theorem mt_or {rest : List Expr} (ha : PT X a (TXb g E (mTest ma))) (hb : PW X (.BoolOp .Or (b :: rest) pos) (TXb g E (mTest mb))) : PW X (.BoolOp .Or (a :: b :: rest) pos) (TXb g E (mTest (mOr ma mb))) := by
  have h := pw_or (pos := pos) ha hb
  refine ⟨fun wh pins s σ H Q I q => h.run wh pins s σ H Q I ?_⟩
  obtain ⟨ρ, al, s, e, st, p⟩ := q
  refine ⟨ρ, al, s, e, st, ?_⟩
  unfold mTest mOr at p
  unfold mTest
  cases h : ma ρ s with
  | bad => rw [h] at p; exact p
  | exc c ds s' => rw [h] at p; exact p
  | ok d s' =>
    rw [h] at p
    cases d <;> first | exact p | skip
    rename_i c
    intro v H' al' t st' ev
    subst ev
    cases v with
    | true => rw [if_pos rfl]; exact p _ H' al' t st' rfl
    | false =>
      rw [if_neg Bool.false_ne_true]
      have p' : Post g E (fun _ _ (b c : Bool) => b = c) (((mb ρ s').bind fun y s => (blD y s).bind fun d s => .ok (D.bl d) s).bind blD) H al Q := p
      refine ⟨ρ, al', s', e.tr t, st', ?_⟩
      show Post g E (fun _ _ (b c : Bool) => b = c) ((mb ρ s').bind blD) H' al' Q
      cases h2 : mb ρ s' with
      | bad => rw [h2] at p'; exact p'
      | exc c ds s2 => rw [h2] at p'; exact fun c d H2 al2 t2 => p' c d H2 al2 (t.trans t2)
      | ok d s2 =>
        rw [h2] at p'
        cases d <;> first | exact p' | skip
        exact fun v H2 al2 t2 => p' v H2 al2 (t.trans t2)
/-- a comparison as a test -/
theorem mt_cmp {op : CmpOp} {r : R2} {f : D → D → Sto → Rs D} (ho : OpR X (compareOp op) r) (hm : behindInMarks op b = false) (hf : OpOk g E r f) (ha : PE X a (TX g E ma)) (hb : PE X b (TX g E mb)) :
    PT X (.Compare a [op] [b] pos) (TXb g E (mTest (mBin f ma mb))) :=
  pt_mono (pt_cmpR ho ha hb hm) fun σ H Q ⟨ρ, al, s, e, st, p⟩ => by
    have h : TX g E (mBin f ma mb) σ H (fun z H3 => ∃ k, z = .bl k ∧ Q k H3) := ⟨ρ, al, s, e, st, Post.bind p fun d s1 v H1 al1 _ t st1 r1 p1 => by
      have p' : Post g E (fun _ _ (b c : Bool) => b = c) ((blD d s1).bind fun b s => .ok b s) H1 al1 Q := by
        cases d <;> first | exact p1 | exact p1.elim
      obtain ⟨c, rfl, rfl, p'⟩ := blD_ok r1 p'
      exact ⟨c, rfl, p' _ _ _ .refl st1 rfl⟩⟩
    exact tx_op hf h
/-- a op b op' c -/
def mChain (f f' : D → D → Sto → Rs D) (a b c : MD D) : MD D := fun ρ s => (a ρ s).bind fun x s => (b ρ s).bind fun y s => (f x y s).bind fun z s => (blD z s).bind fun k s => if k = true then (c ρ s).bind fun w s => f' y w s else .ok (D.bl false) s
theorem tx_chain {r r' : R2} {f f' : D → D → Sto → Rs D} {Q : VK} (hf : OpOk g E r f) (hf' : OpOk g E r' f') (h : TX g E (mChain f f' ma mb mc) σ H Q) : tChain r r' (TX g E ma) (TX g E mb) (TX g E mc) σ H Q :=
  TG.bind (k := fun x ρ s => (mb ρ s).bind fun y s => (f x y s).bind fun z s => (blD z s).bind fun k s => if k = true then (mc ρ s).bind fun w s => f' y w s else .ok (D.bl false) s) h fun d v H1 al1 ρ s1 e st rp p =>
    ⟨ρ, al1, s1, e, st, Post.bind p fun d2 s2 w H2 al2 _ t st2 rp2 p2 => hf H2 al2 s2 d d2 v w _ st2 (rp.tr t) rp2 (Post.bind p2 fun d3 s3 z H3 al3 _ t3 st3 rp3 p3 => by
      obtain ⟨k, rfl, rfl, p3⟩ := blD_ok rp3 p3
      refine ⟨k, rfl, ?_⟩
      cases k with
      | true =>
        rw [if_pos rfl] at p3 ⊢
        exact ⟨ρ, al3, s3, (e.tr t).tr t3, st3, Post.bind p3 fun d4 s4 u H4 al4 _ t4 st4 rp4 p4 => hf' H4 al4 s4 d2 d4 w u Q st4 ((rp2.tr t3).tr t4) rp4 p4⟩
      | false => rw [if_neg Bool.false_ne_true] at p3 ⊢; exact p3 _ _ _ .refl st3 (.bl _))⟩
theorem me_chain {c : Expr} {op op' : CmpOp} {r r' : R2} {f f' : D → D → Sto → Rs D} (ho : OpR X (compareOp op) r) (ho' : OpR X (compareOp op') r') (hf : OpOk g E r f) (hf' : OpOk g E r' f') (hm : lastMarks [op, op'] [b, c] = false)
    (ha : PE X a (TX g E ma)) (hb : PE X b (TX g E mb)) (hc : PE X c (TX g E mc)) : PE X (.Compare a [op, op'] [b, c] pos) (TX g E (mChain f f' ma mb mc)) :=
  pe_mono (pe_chain ho ho' ha hb hc hm) fun σ H Q h => tx_chain hf hf' h
theorem mt_chain {c : Expr} {op op' : CmpOp} {r r' : R2} {f f' : D → D → Sto → Rs D} (ho : OpR X (compareOp op) r) (ho' : OpR X (compareOp op') r') (hf : OpOk g E r f) (hf' : OpOk g E r' f') (hm : lastMarks [op, op'] [b, c] = false)
    (ha : PE X a (TX g E ma)) (hb : PE X b (TX g E mb)) (hc : PE X c (TX g E mc)) : PT X (.Compare a [op, op'] [b, c] pos) (TXb g E (mTest (mChain f f' ma mb mc))) :=
  pt_mono (pt_chain ho ho' ha hb hc hm) fun σ H Q ⟨ρ, al, s, e, st, p⟩ => by
    have h : TX g E (mChain f f' ma mb mc) σ H (fun z H3 => ∃ k, z = .bl k ∧ Q k H3) := ⟨ρ, al, s, e, st, Post.bind p fun d s1 v H1 al1 _ t st1 r1 p1 => by
      have p' : Post g E (fun _ _ (b c : Bool) => b = c) ((blD d s1).bind fun b s => .ok b s) H1 al1 Q := by
        cases d <;> first | exact p1 | exact p1.elim
      obtain ⟨c, rfl, rfl, p'⟩ := blD_ok r1 p'
      exact ⟨c, rfl, p' _ _ _ .refl st1 rfl⟩⟩
    exact tx_chain hf hf' h
/-- - a -/
def mNeg (a : MD D) : MD D := fun ρ s => (a ρ s).bind fun x s => match x with
  | .int i => .ok (D.int (-i)) s
  | _ => .bad
theorem me_neg (ha : PE X a (TX g E ma)) : PE X (.UnaryOp .USub a pos) (TX g E (mNeg ma)) :=
  pe_mono (pe_un un_neg ha) fun σ H Q h => TG.bind (k := fun x ρ s => match x with | D.int i => .ok (D.int (-i)) s | _ => .bad) h fun d v H1 al1 ρ s1 e st rp p => by
    cases d <;> first | exact p.elim | skip
    cases rp.int_inv
    exact ⟨_, rfl, p _ _ _ .refl st (.int _)⟩
end
def mNil : MD (List D) := fun _ s => .ok [] s
def mCons (a : MD D) (r : MD (List D)) : MD (List D) := fun ρ s => (a ρ s).bind fun x s => (r ρ s).bind fun xs s => .ok (x :: xs) s
def plainE : Expr → Bool
  | .Starred .. => false
  | _ => true
theorem star_cons {e : Expr} {es : List Expr} {env : Env} (h : plainE e = true) : starEach (e :: es) env = (false, eval e env) :: starEach es env := by
  cases e <;> first | rfl | cases h
theorem star_any {env : Env} {pos : Pos} : ∀ {es : List Expr}, es.all plainE = true → (backTo pos (starEach es env)).any (·.1) = false
  | [], _ => rfl
  | e :: es, h => by
    rw [List.all_cons, Bool.and_eq_true] at h
    rw [star_cons h.1]
    show (false || (backTo pos (starEach es env)).any (·.1)) = false
    rw [star_any h.2]; rfl
theorem ma_nil : PA X [] (TXs g E mNil) := pa_mono pa_nil fun σ H Q ⟨ρ, al, s, e, st, p⟩ => p _ _ _ .refl st .nil
theorem ma_cons {e : Expr} {es : List Expr} {m : MD D} {ms : MD (List D)} (he : PE X e (TX g E m)) (hs : PA X es (TXs g E ms)) (hp : plainE e = true) : PA X (e :: es) (TXs g E (mCons m ms)) :=
  pa_mono (pa_cons he hs (star_cons hp)) fun σ H Q h => TG.bind (k := fun x ρ s => (ms ρ s).bind fun xs s => .ok (x :: xs) s) h fun d v H1 al1 ρ s1 e st rp p =>
    ⟨ρ, al1, s1, e, st, Post.bind p fun d2 s2 w H2 al2 _ t st2 rp2 p2 => p2 _ _ _ .refl st2 (.cons (rp.tr t) rp2)⟩
def mTup (ms : MD (List D)) : MD D := fun ρ s => (ms ρ s).bind fun ds s => .ok (.tup ds) s
def mLst (c : Bool) (ms : MD (List D)) : MD D := fun ρ s => (ms ρ s).bind fun ds s => newL c ds s
section
variable {es : List Expr} {ms : MD (List D)} {pos : Pos}
/-- how many there are -/
def Len (n : Nat) (ms : MD (List D)) : Prop := ∀ ρ s ds s', ms ρ s = .ok ds s' → ds.length = n
theorem len_nil : Len 0 mNil := fun ρ s ds s' h => by cases h; rfl
theorem len_cons {n : Nat} {m : MD D} (h : Len n ms) : Len (n + 1) (mCons m ms) := fun ρ s ds s' q => by
  unfold mCons at q
  cases e1 : m ρ s with
  | bad => rw [e1] at q; cases q
  | exc _ _ _ => rw [e1] at q; cases q
  | ok x s1 =>
    rw [e1, Rs.bind_ok] at q
    cases e2 : ms ρ s1 with
    | bad => rw [e2] at q; cases q
    | exc _ _ _ => rw [e2] at q; cases q
    | ok xs s2 => rw [e2, Rs.bind_ok] at q; cases q; simp [h ρ s1 xs _ e2]
theorem me_tup {n k : Nat} (hl : Len n ms) (hn : n ≤ 1000) (h : PA X es (TXs g E ms)) : PE X (.Tuple es k pos) (TX g E (mTup ms)) :=
  pe_mono (pe_tup h) fun σ H Q ⟨ρ, al, s, e, st, p⟩ => ⟨ρ, al, s, e, st, Post.bind p fun ds s1 vs H1 al1 hd t st1 rs p1 =>
    ⟨by rw [rs.length, hl _ _ _ _ hd]; exact Nat.le_trans hn (by decide), post_newT st1 rs p1⟩⟩
theorem me_lst {n : Nat} {c : Bool} (hl : Len n ms) (hn : n ≤ 1000) (h : PA X es (TXs g E ms)) : PE X (.List es pos) (TX g E (mLst c ms)) :=
  pe_mono (pe_lst h) fun σ H Q ⟨ρ, al, s, e, st, p⟩ => ⟨ρ, al, s, e, st, Post.bind p fun ds s1 vs H1 al1 hd t st1 rs p1 =>
    ⟨by rw [rs.length, hl _ _ _ _ hd]; exact Nat.le_trans hn (by decide), post_newL st1 rs p1⟩⟩
end
theorem atI_reps {vs : List V} {ds : List D} {i : Int} {d : D} (r : Reps g H al vs ds) (h : atI ds i = some d) : ∃ v, atI vs i = some v ∧ Rep g H al v d := by
  unfold atI at *
  rw [r.length]
  cases e : ixN ds.length i with
  | none => rw [e] at h; cases h
  | some j => rw [e] at h; exact r.get h
def optD {α : Type} (o : Option α) (k : α → Rs D) : Rs D := match o with
  | some x => k x
  | none => .bad
@[simp] theorem optD_some {α : Type} {x : α} {k : α → Rs D} : optD (some x) k = k x := rfl
@[simp] theorem optD_none {α : Type} {k : α → Rs D} : optD none k = .bad := rfl
theorem optD_inv {α β γ : Type} {rel : Hp → List Addr → V → D → Prop} {o : Option α} {k : α → Rs D} {Q : VK} (p : Post g E rel (optD o k) H al Q) : ∃ x, o = some x ∧ Post g E rel (k x) H al Q := by
  cases o with
  | none => exact p.elim
  | some x => exact ⟨x, rfl, p⟩
def dIx (x y : D) (s : Sto) : Rs D := match dgetO x y s with
  | some (some d) => .ok d s
  | _ => .bad
def idxD : D → D → Sto → Rs D
  | .str z, .int i, s => if z.length ≤ sizeLine then optD (atI z.cps.toList i) fun c => .ok (D.str ⟨#[c]⟩) s else .bad
  | .tup ds, .int i, s => optD (atI ds i) fun d => .ok d s
  | x, y, s => match asL x s, y with
    | some ds, .int i => optD (atI ds i) fun d => .ok d s
    | _, y => dIx x y s
theorem ok_idx (hK : g.K = X.K) : OpOk g E (fun x y H Q => rIx X.K x y H Q ∨ rIxD x y H Q) idxD := by
  intro H al s x y v w Q st rx ry p
  unfold idxD at p
  split at p
  · rename_i z i
    cases rx.str_inv; cases ry.int_inv
    by_cases hl : z.length ≤ sizeLine
    · rw [if_pos hl] at p
      obtain ⟨c, e, p⟩ := optD_inv (β := Nat) (γ := Nat) p
      exact .inl (.inr (.inr ⟨z, i, c, rfl, rfl, hl, e, p _ _ _ .refl st (.str _)⟩))
    · rw [if_neg hl] at p; exact p.elim
  · cases ry.int_inv
    obtain ⟨d, e, p⟩ := optD_inv (β := Nat) (γ := Nat) p
    obtain ⟨pa, vs, rfl, sq, rs⟩ := tup_ok rx
    obtain ⟨u, h1, h2⟩ := atI_reps rs e
    rw [hK] at sq
    exact .inl (.inr (.inl ⟨pa, vs, _, u, rfl, rfl, sq, h1, p _ _ _ .refl st h2⟩))
  · split at p
    · rename_i ds i e0 _ _
      cases ry.int_inv
      obtain ⟨d, e, p⟩ := optD_inv (β := Nat) (γ := Nat) p
      obtain ⟨pa, vs, rfl, sq, rs⟩ := asL_ok st rx e0
      obtain ⟨u, h1, h2⟩ := atI_reps rs e
      rw [hK] at sq
      exact .inl (.inl ⟨pa, vs, _, u, rfl, rfl, sq, h1, p _ _ _ .refl st h2⟩)
    · unfold dIx at p
      split at p
      · rename_i d e
        exact .inr (ok_ixD st rx ry e p)
      · exact p.elim
def noSl : Expr → Bool
  | .Slice .. => false
  | _ => true
theorem plainIx_of {b : Expr} (h : noSl b = true) : PlainIx b := fun o i => by
  cases b <;> first | rfl | cases h
section
variable {a b : Expr} {ma mb : MD D} {pos p2 : Pos}
theorem me_idx (hu : X.A.units + 64 < cLine) (hK : g.K = X.K) (ha : PE X a (TX g E ma)) (hb : PE X b (TX g E mb)) (hs : noSl b = true) : PE X (.Subscript a b pos) (TX g E (mBin idxD ma mb)) :=
  pe_mono (pe_ix (ix_seq.or (ix_dict hu)) ha hb (plainIx_of hs)) fun σ H Q h => tx_op (ok_idx hK) h
def mPart0 : MD (Option Int) := fun _ s => .ok none s
def mPart (a : MD D) : MD (Option Int) := fun ρ s => (a ρ s).bind fun x s => match x with
  | .int i => .ok (some i) s
  | _ => .bad
abbrev TXo (g : G) (E : XK) (m : MD (Option Int)) : TO := TG g E (fun _ _ (b c : Option Int) => b = c) m
theorem mo_none : PO X none (TXo g E mPart0) := ⟨fun pins s σ H Q I ⟨ρ, al, s', e, st, p⟩ => po_none.run pins s σ H Q I (p _ _ _ .refl st rfl)⟩
theorem mo_some (ha : PE X a (TX g E ma)) : PO X (some a) (TXo g E (mPart ma)) := ⟨fun pins s σ H Q I h => (po_some ha).run pins s σ H Q I
  (TG.bind (k := fun x ρ s => match x with | D.int i => .ok (some i) s | _ => .bad) h fun d v H1 al1 ρ s1 e st rp p => by
    cases d <;> first | exact p.elim | skip
    cases rp.int_inv
    exact ⟨_, rfl, p _ _ _ .refl st rfl⟩)⟩
def cutD (ds : List D) (lo hi : Option Int) : List D := (ds.drop (HT.sIx ds.length 0 lo)).take (HT.sIx ds.length ds.length hi - HT.sIx ds.length 0 lo)
theorem cut_reps {vs : List V} {ds : List D} (r : Reps g H al vs ds) (lo hi : Option Int) : Reps g H al (cutV vs lo hi) (cutD ds lo hi) := by
  unfold cutV cutD
  rw [r.length]
  exact (r.drop _).take _
def slD (c : Bool) (lo hi : Option Int) : D → Sto → Rs D
  | .str z, s => if z.length ≤ sizeLine then .ok (D.str (cutS z lo hi)) s else .bad
  | .tup ds, s => .ok (.tup (cutD ds lo hi)) s
  | x, s => optD (asL x s) fun ds => newL c (cutD ds lo hi) s
def mSl (c : Bool) (a : MD D) (lo hi : MD (Option Int)) : MD D := fun ρ s => (a ρ s).bind fun x s => (lo ρ s).bind fun l s => (hi ρ s).bind fun h s => slD c l h x s
def rSlAll (K : PySem.W.Frag) : V → Option Int → Option Int → Hp → VK → Prop := fun x lo hi H Q => rSlS x lo hi H Q ∨ (rSlA K x lo hi H Q ∨ rSlL K x lo hi H Q)
theorem sl_all : SlR X (rSlAll X.K) := SlR.or sl_str (SlR.or sl_tupA sl_list)
theorem me_sl {c : Bool} {lo hi : Option Expr} {ml mh : MD (Option Int)} (hK : g.K = X.K) (ha : PE X a (TX g E ma)) (hl : PO X lo (TXo g E ml)) (hh : PO X hi (TXo g E mh)) : PE X (.Subscript a (.Slice lo hi none p2) pos) (TX g E (mSl c ma ml mh)) :=
  pe_mono (pe_slice sl_all ha hl hh) fun σ H Q h => TG.bind (k := fun x ρ s => (ml ρ s).bind fun l s => (mh ρ s).bind fun h s => slD c l h x s) h fun x v H1 al1 ρ s1 e st rp p =>
    ⟨ρ, al1, s1, e, st, Post.bind p fun l s2 l' H2 al2 _ t st2 el p2 => ⟨ρ, al2, s2, e.tr t, st2, Post.bind p2 fun h s3 h' H3 al3 _ t3 st3 eh p3 => by
      have el' : l' = l := el
      have eh' : h' = h := eh
      subst el'; subst eh'
      have rp3 := (rp.tr t).tr t3
      unfold slD at p3
      split at p3
      · rename_i z
        cases rp3.str_inv
        by_cases hz : z.length ≤ sizeLine
        · rw [if_pos hz] at p3
          exact .inl ⟨z, rfl, hz, p3 _ _ _ .refl st3 (.str _)⟩
        · rw [if_neg hz] at p3; exact p3.elim
      · rename_i ds
        obtain ⟨pa, vs, rfl, sq, rs⟩ := tup_ok rp3
        rw [hK] at sq
        refine .inr (.inl ⟨pa, vs, rfl, sq, fun z => ?_, fun _ => post_newT st3 (cut_reps rs _ _) p3⟩)
        have e1 : cutD ds l' h' = ds := by
          unfold cutD
          rw [← rs.length, z.1, z.2]
          rw [List.drop_zero, Nat.sub_zero, rs.length, List.take_length]
        rw [e1] at p3
        exact p3 _ _ _ .refl st3 rp3
      · obtain ⟨ds, e0, p3⟩ := optD_inv (β := Nat) (γ := Nat) p3
        obtain ⟨pa, vs, rfl, sq, rs⟩ := asL_ok st3 rp3 e0
        rw [hK] at sq
        exact .inr (.inr ⟨pa, vs, rfl, sq, post_newL st3 (cut_reps rs _ _) p3⟩)⟩⟩
end
end Mx
namespace Mx
open PySem L2
variable {g : G} {E : XK} {X : Cx} {H : Hp} {al : List Addr} {s : Sto} {σ : St} {ρ : Ro}
theorem lookup_zip : ∀ {N : List Str} {vs : List V} {k : Nat} {f : Str} {v : V}, N.Nodup → N[k]? = some f → vs[k]? = some v → (N.zip vs).lookup f = some v
  | [], _, _, _, _, _, h, _ => by simp at h
  | _ :: _, [], _, _, _, _, _, h => by simp at h
  | n :: N, w :: vs, 0, f, v, _, h1, h2 => by
    simp at h1 h2; subst h1; subst h2
    simp [List.lookup]
  | n :: N, w :: vs, k + 1, f, v, nd, h1, h2 => by
    have h1' : N[k]? = some f := by simpa using h1
    have ne : (f == n) = false := beq_eq_false_iff_ne.mpr fun e => (List.nodup_cons.mp nd).1 (e ▸ List.mem_of_getElem? h1')
    rw [List.zip_cons_cons, List.lookup_cons, ne]
    exact lookup_zip (List.nodup_cons.mp nd).2 h1' (by simpa using h2)
theorem lookup_zip_none : ∀ {N : List Str} {vs : List V} {f : Str}, f ∉ N → (N.zip vs).lookup f = none
  | [], _, _, _ => by simp
  | _ :: _, [], _, _ => by simp
  | n :: N, w :: vs, f, h => by
    have ne : (f == n) = false := beq_eq_false_iff_ne.mpr fun e => h (e ▸ List.mem_cons_self)
    rw [List.zip_cons_cons, List.lookup_cons, ne]
    exact lookup_zip_none fun m => h (List.mem_cons_of_mem _ m)
/-- the k-th field stored (again, or as the next one) -/
theorem putF_zip_set : ∀ {N : List Str} {vs : List V} {k : Nat} {f : Str} {v : V}, N.Nodup → N[k]? = some f → k < vs.length → putF f v (N.zip vs) = N.zip (vs.set k v)
  | [], _, _, _, _, _, h, _ => by simp at h
  | _ :: _, [], _, _, _, _, _, h => by simp at h
  | n :: N, w :: vs, 0, f, v, _, h1, _ => by
    simp at h1; subst h1
    simp [putF]
  | n :: N, w :: vs, k + 1, f, v, nd, h1, h2 => by
    have h1' : N[k]? = some f := by simpa using h1
    have ne : n ≠ f := fun e => (List.nodup_cons.mp nd).1 (e ▸ List.mem_of_getElem? h1')
    rw [List.zip_cons_cons, List.set_cons_succ, List.zip_cons_cons]
    show (if n = f then _ else (n, w) :: putF f v (N.zip vs)) = _
    rw [if_neg ne, putF_zip_set (List.nodup_cons.mp nd).2 h1' (by simpa using h2)]
theorem putF_zip_next : ∀ {N : List Str} {vs : List V} {f : Str} {v : V}, N.Nodup → N[vs.length]? = some f → putF f v (N.zip vs) = N.zip (vs ++ [v])
  | [], _, _, _, _, h => by simp at h
  | n :: N, [], f, v, _, h => by
    simp at h; subst h
    simp [putF]
  | n :: N, w :: vs, f, v, nd, h => by
    have h1' : N[vs.length]? = some f := by simpa using h
    have ne : n ≠ f := fun e => (List.nodup_cons.mp nd).1 (e ▸ List.mem_of_getElem? h1')
    rw [List.zip_cons_cons, List.cons_append, List.zip_cons_cons]
    show (if n = f then _ else (n, w) :: putF f v (N.zip vs)) = _
    rw [if_neg ne, putF_zip_next (List.nodup_cons.mp nd).2 h1']
def cellO (c : Nat) : Option Cell → Option (List D)
  | some (.obj c' ds) => if c' = c then some ds else none
  | _ => none
/-- the fields of an instance of c -/
def asO (c : Nat) : D → Sto → Option (List D)
  | .obj c' ds, _ => if c' = c then some ds else none
  | .ref n, s => cellO c s[n]?
  | _, _ => none
theorem cellO_inv {c : Nat} {o : Option Cell} {ds : List D} (h : cellO c o = some ds) : o = some (.obj c ds) := by
  cases o with
  | none => cases h
  | some q =>
    cases q with
    | obj c' es =>
      by_cases e : c' = c
      · subst e; rw [cellO, if_pos rfl] at h; cases h; rfl
      · rw [cellO, if_neg e] at h; cases h
    | _ => cases h
theorem asO_ok {c : Nat} {x : D} {v : V} {ds : List D} (st : StOk g H al s) (r : Rep g H al v x) (h : asO c x s = some ds) :
    ∃ p dx vs, v = .ref p ∧ H p = some (.ins (g.ca c) dx ((g.cf c).zip vs)) ∧ vs.length ≤ (g.cf c).length ∧ Reps g H al vs ds := by
  cases x with
  | obj c' es =>
    by_cases e : c' = c
    · subst e
      rw [asO, if_pos rfl] at h; cases h
      cases r with | obj h1 _ l rs => exact ⟨_, _, _, rfl, h1, l, rs⟩
    · rw [asO, if_neg e] at h; cases h
  | ref n =>
    cases r with
    | ref hp =>
      obtain ⟨dx, vs, e1, l, rs⟩ := st.cell n _ _ hp (cellO_inv h)
      exact ⟨_, dx, vs, rfl, e1, l, rs⟩
  | _ => cases h
def clsD : D → Sto → Option Nat
  | .obj c _, _ => some c
  | .ref n, s => match s[n]? with
    | some (.obj c _) => some c
    | _ => none
  | _, _ => none
theorem clsD_as {c : Nat} {x : D} (h : clsD x s = some c) : ∃ ds, asO c x s = some ds := by
  cases x with
  | obj c' es => cases h; exact ⟨es, by rw [asO, if_pos rfl]⟩
  | ref n =>
    unfold clsD at h
    cases e : s[n]? with
    | none => simp only [e] at h; cases h
    | some q =>
      cases q <;> simp only [e] at h <;> first | cases h | skip
      exact ⟨_, by rw [asO, e, cellO, if_pos rfl]⟩
  | _ => cases h
/-- what is known of a class -/
structure ClsOk (g : G) (c : Nat) : Prop where
  cl : Cls g.K (g.ca c)
  no : ∀ f ∈ g.cf c, NoAttr g.K (g.ca c) f
  nd : (g.cf c).Nodup
  few : (g.cf c).length < 1000
def fldD (c k : Nat) (x : D) (s : Sto) : Rs D := optD (asO c x s) fun ds => optD ds[k]? fun d => .ok d s
def mFld (c k : Nat) (a : MD D) : MD D := fun ρ s => (a ρ s).bind (fldD c k)
def baseOk : Expr → Bool
  | .Call (.Name _ _) [] [] _ => false
  | _ => true
theorem base_of {e : Expr} {f : Str} {env : Env} {w : Sem Value} (h : baseOk e = true) : attributeBase e f env w = w := by
  unfold attributeBase
  split
  · cases h
  · rfl
section
variable {a b o : Expr} {ma mb mo : MD D} {pos apos pos' : Pos} {f m : Str}
theorem me_fld {c k : Nat} (hK : g.K = X.K) (C : ClsOk g c) (hk : (g.cf c)[k]? = some f) (ha : PE X a (TX g E ma)) (hb : baseOk a = true) : PE X (.Attribute a f pos) (TX g E (mFld c k ma)) :=
  pe_mono (pe_fld ha (base_of hb)) fun σ H Q h => TG.bind (k := fun x _ s => fldD c k x s) h fun x v H1 al1 ρ s1 e st rp p => by
    unfold fldD at p
    obtain ⟨ds, e0, p⟩ := optD_inv (β := Nat) (γ := Nat) p
    obtain ⟨d, e1, p⟩ := optD_inv (β := Nat) (γ := Nat) p
    obtain ⟨pa, dx, vs, rfl, e2, l, rs⟩ := asO_ok st rp e0
    obtain ⟨u, h1, h2⟩ := rs.get e1
    exact ⟨pa, _, dx, _, u, rfl, e2, by rw [← hK]; exact C.cl, by rw [← hK]; exact C.no f (List.mem_of_getElem? hk), lookup_zip C.nd hk h1, p _ _ _ .refl st h2⟩
end
def spOf (g : G) (n : Nat) (φ : List D → Sto → Rs D) : Sp := fun vs H Q E => vs.length = n ∧ ∃ F ds al s, Reps (g.wF F) H al vs ds ∧ StOk (g.wF F) H al s ∧ Post (g.wF F) E (Rep (g.wF F)) (φ ds s) H al Q
def mCall (φ : List D → Sto → Rs D) (dds : List D) (ms : MD (List D)) : MD D := fun ρ s => (ms ρ s).bind fun ds s => φ (ds ++ dds) s
theorem tx_call {φ : List D → Sto → Rs D} {dds : List D} {dvs : List V} {ms : MD (List D)} {n k : Nat} {Q : VK} (hd : ∀ H al, Reps g H al dvs dds) (hl : Len k ms) (hn : k + dds.length = n) (h : TX g E (mCall φ dds ms) σ H Q) :
    tCall (spOf g n φ) dvs E (TXs g E ms) σ H Q := by
  obtain ⟨ρ, al, s, e, st, p⟩ := h
  exact ⟨ρ, al, s, e, st, Post.bind p fun ds s1 vs H1 al1 hds t st1 rs p1 => ⟨by
    have r2 := (rs.append (hd H1 al1)).length
    rw [r2, List.length_append, hl _ _ _ _ hds, hn], g.F, ds ++ dds, al1, s1, rs.append (hd H1 al1), st1, p1⟩⟩
section
variable {CX : CXT} {x : Str} {p pos : Pos} {es : List Expr} {ms : MD (List D)} {kk n j : Nat} {f C : Addr} {fd : FuncData} {ps : List Str} {φ : List D → Sto → Rs D} {dds : List D} {dvs : List V} {dsv : List Value}
theorem me_call {e : Expr} (F : FnOk X.prog X.w X.K X.mg X.base CX kk f fd ps (spOf g n φ)) (hr : Room kk X.A) (hg : Gl X x) (hm : X.mg x = some (.ref f)) (hk : PySem.W.keepIn X.K (.ref f) = true) (hb : Binds X.K fd ps dsv) (hd : Vals dvs dsv) (hdd : ∀ H al, Reps g H al dvs dds)
    (hx : Passes CX X E) (hdb : (x == ("__debug__" : Str)) = false) (ha : PA X (e :: es) (TXs g E ms)) (hl : Len j ms) (hn : j + dds.length = n) (hp : (e :: es).all plainE = true) : PE X (.Call (.Name x p) (e :: es) [] pos) (TX g E (mCall φ dds ms)) := by
  rw [List.all_cons, Bool.and_eq_true] at hp
  exact pe_mono (pe_call F hr hg hm hk hb hd hx ha hdb (star_cons hp.1) (star_any hp.2)) fun σ H Q h => tx_call hdd hl hn h
theorem tx_call0 {Q : VK} (hdd : ∀ H al, Reps g H al dvs dds) (hn : dds.length = n) (h : TX g E (mCall φ dds mNil) σ H Q) : tCall (spOf g n φ) dvs E tNil σ H Q := by
  obtain ⟨ρ, al, s, e, st, p⟩ := h
  exact ⟨by rw [List.nil_append, (hdd H al).length, hn], g.F, dds, al, s, hdd H al, st, p⟩
theorem me_call0 (F : FnOk X.prog X.w X.K X.mg X.base CX kk f fd ps (spOf g n φ)) (hr : Room kk X.A) (hg : Gl X x) (hm : X.mg x = some (.ref f)) (hk : PySem.W.keepIn X.K (.ref f) = true) (hb : Binds X.K fd ps dsv) (hd : Vals dvs dsv) (hdd : ∀ H al, Reps g H al dvs dds)
    (hx : Passes CX X E) (hdb : (x == ("__debug__" : Str)) = false) (hn : dds.length = n) : PE X (.Call (.Name x p) [] [] pos) (TX g E (mCall φ dds mNil)) :=
  pe_mono (pe_call0 F hr hg hm hk hb hd hx hdb) fun σ H Q h => tx_call0 hdd hn h
def mkD (c : Nat) (φ : List D → Sto → Rs D) (ds : List D) (s : Sto) : Rs D := (φ (.ref s.length :: ds) (s ++ [.obj c []])).bind fun r s' => match r with
  | .non => .ok (.ref s.length) s'
  | _ => .bad
theorem sp_mk {c : Nat} {ds : List D} {vs : List V} {Q : VK} (st : StOk g H al s) (rs : Reps g H al vs ds) (hn : vs.length + 1 = n) (p : Post g E (Rep g) (mkD c φ ds s) H al Q) :
    ∀ x dx, H x = none → H dx = none → dx ≠ x → spOf g n φ (.ref x :: vs) (upd (upd H dx (.own x)) x (.ins (g.ca c) dx [])) (fun v H2 => v = .non ∧ Q (.ref x) H2) E := by
  intro x dx nx nd ne
  have st1 : StOk g (upd H dx (.own x)) al s := st.same (upd_new nd)
  have t1 : Tr g al H al (upd H dx (.own x)) := .same (upd_new nd)
  have nx1 : upd H dx (.own x) x = none := by rw [upd_ne (Ne.symm ne)]; exact nx
  have t2 : Tr g al (upd H dx (.own x)) (al ++ [x]) (upd (upd H dx (.own x)) x (.ins (g.ca c) dx [])) := .alloc st1 nx1
  have st2 : StOk g (upd (upd H dx (.own x)) x (.ins (g.ca c) dx [])) (al ++ [x]) (s ++ [.obj c []]) := st1.alloc nx1 ⟨dx, [], by rw [upd_same]; simp, Nat.zero_le _, .nil⟩
  have t := t1.trans t2
  have ix : (al ++ [x])[s.length]? = some x := by rw [← st.len]; simp
  refine ⟨by simp [hn], g.F, .ref s.length :: ds, al ++ [x], s ++ [.obj c []], .cons (.ref ix) (rs.tr t), st2, ?_⟩
  unfold mkD at p
  have p2 := p.tr t
  refine Post.bind p2 fun d s1 v H1 al1 _ t3 st3 rp p3 => ?_
  cases d <;> first | exact p3.elim | skip
  exact ⟨rp.non_inv, p3 _ _ _ .refl st3 (.ref (t3.ix ix))⟩
theorem me_make {c : Nat} {e : Expr} (M : Mk X.K C f) (hC : g.ca c = C) (F : FnOk X.prog X.w X.K X.mg X.base CX kk f fd ps (spOf g n φ)) (hr : Room (kk + 1) X.A) (hg : Gl X x) (hm : X.mg x = some (.ref C)) (hb : Binds X.K fd ps dsv) (hd : Vals dvs dsv) (hdd : ∀ H al, Reps g H al dvs dds)
    (hx : Passes CX X E) (hdb : (x == ("__debug__" : Str)) = false) (ha : PA X (e :: es) (TXs g E ms)) (hl : Len j ms) (hn : j + dds.length + 1 = n) (hp : (e :: es).all plainE = true) : PE X (.Call (.Name x p) (e :: es) [] pos) (TX g E (mCall (mkD c φ) dds ms)) := by
  rw [List.all_cons, Bool.and_eq_true] at hp
  refine pe_mono (pe_make M F hr hg hm hb hd hx ha hdb (star_cons hp.1) (star_any hp.2)) fun σ H Q h => ?_
  obtain ⟨ρ, al, s, e, st, p⟩ := h
  refine ⟨ρ, al, s, e, st, Post.bind p fun ds s1 vs H1 al1 hds t st1 rs p1 => ?_⟩
  subst hC
  have r2 := rs.append (hdd H1 al1)
  exact sp_mk st1 r2 (by rw [r2.length, List.length_append, hl _ _ _ _ hds]; exact hn) p1
theorem me_make0 {c : Nat} (M : Mk X.K C f) (hC : g.ca c = C) (F : FnOk X.prog X.w X.K X.mg X.base CX kk f fd ps (spOf g n φ)) (hr : Room (kk + 1) X.A) (hg : Gl X x) (hm : X.mg x = some (.ref C)) (hb : Binds X.K fd ps dsv) (hd : Vals dvs dsv) (hdd : ∀ H al, Reps g H al dvs dds)
    (hx : Passes CX X E) (hdb : (x == ("__debug__" : Str)) = false) (hn : dds.length + 1 = n) : PE X (.Call (.Name x p) [] [] pos) (TX g E (mCall (mkD c φ) dds mNil)) := by
  refine pe_mono (pe_make0 M F hr hg hm hb hd hx hdb) fun σ H Q h => ?_
  obtain ⟨ρ, al, s, e, st, p⟩ := h
  subst hC
  have r2 := hdd H al
  exact sp_mk st r2 (by rw [List.nil_append, r2.length]; exact hn) p
def mMeth (disp : Nat → Option (List D → Sto → Rs D)) (dds : List D) (o : MD D) (ms : MD (List D)) : MD D := fun ρ s => (o ρ s).bind fun x s => optD ((clsD x s).bind disp) fun φ => (ms ρ s).bind fun ds s => φ (x :: (ds ++ dds)) s
/-- what is known of the method m of the class c -/
structure MtOk (X : Cx) (g : G) (CX : CXT) (kk n : Nat) (dsv : List Value) (m : Str) (c : Nat) (φ : List D → Sto → Rs D) : Prop where
  cl : ClsOk g c
  no : m ∉ g.cf c
  ex : ∃ f fd ps, Meth g.K (g.ca c) m f ∧ FnOk X.prog X.w X.K X.mg X.base CX kk f fd ps (spOf g n φ) ∧ Binds X.K fd ps dsv
theorem ht_of {o : Expr} {m : Str} {apos pos : Pos} {args : List Expr} {env : Env} (hb : baseOk o = true) (hf : args.all plainE = true) (hn : args.length < 30) (hl : (apos.endLine == pos.line) = true) :
    eval (.Call (.Attribute o m apos) args [] pos) env = (do
      let ov ← eval o env
      standAt apos.atName
      let (f, first) ← holding [ov] (getMethod ov m (do return (← importBound o env).getD true))
      callWith pos f first (backTo pos (starEach args env)) (backToKw pos (keywordEach [] env))) := by
  have hfew : methodCallForm (args.length + ([] : List Keyword).length) (backTo pos (starEach args env)) (backToKw pos (keywordEach [] env)) = true := by
    have h1 : (backTo pos (starEach args env)).all (fun x => !x.1) = true := by
      have := star_any (env := env) (pos := pos) hf
      rw [List.all_eq_not_any_not]
      simpa using this
    unfold methodCallForm
    rw [h1]
    simp [keywordEach, backToKw]
    omega
  rw [arm_eval_Call, base_of hb]
  unfold methodCall
  rw [hfew]
  have hpos : methodCallPos true o env apos pos = pure pos := by unfold methodCallPos; simp [hl]
  rw [hpos]
  rfl
theorem me_meth {disp : Nat → Option (List D → Sto → Rs D)} {o e : Expr} {mo : MD D} {m : Str} {apos : Pos} (hK : g.K = X.K) (hr : Room kk X.A) (hd : Vals dvs dsv) (hdd : ∀ H al, Reps g H al dvs dds) (hx : Passes CX X E)
    (hM : ∀ c φ, disp c = some φ → MtOk X g CX kk n dsv m c φ) (ho : PE X o (TX g E mo)) (hbo : baseOk o = true) (ha : PA X (e :: es) (TXs g E ms)) (hl : Len j ms) (hn : j + dds.length + 1 = n) (hp : (e :: es).all plainE = true) (h30 : (e :: es).length < 30) (hpo : (apos.endLine == pos.line) = true) :
    PE X (.Call (.Attribute o m apos) (e :: es) [] pos) (TX g E (mMeth disp dds mo ms)) := by
  refine ⟨fun pins s σ H Q I h => ?_⟩
  have ht := ht_of (m := m) (env := X.env) hbo hp h30 hpo
  rw [List.all_cons, Bool.and_eq_true] at hp
  refine methcall_of (args := e :: es) ho I (TG.bind (k := fun x ρ s => optD ((clsD x s).bind disp) fun φ => (ms ρ s).bind fun ds s => φ (x :: (ds ++ dds)) s) h fun x v H1 al1 ρ s1 er st rp p => ?_) ht
  obtain ⟨φ, e0, p⟩ := optD_inv (β := Nat) (γ := Nat) p
  cases ec : clsD x s1 with
  | none => rw [ec] at e0; cases e0
  | some c =>
    rw [ec] at e0
    obtain ⟨es', eo⟩ := clsD_as ec
    obtain ⟨a, dx, vs0, rfl, e2, l, rs⟩ := asO_ok st rp eo
    have M := hM c φ e0
    obtain ⟨f, fd, ps, mt, F, hb⟩ := M.ex
    refine ⟨a, g.ca c, dx, _, f, rfl, e2, by rw [← hK]; exact M.cl.cl, by rw [← hK]; exact mt, lookup_zip_none M.no, fun s2 I2 => ?_⟩
    refine PySem.W.callWith_K (first := [.ref a]) (h₀ := X.base) I2.ok.mod.kin (by rw [← hK]; exact mt.kp) (thn (ha.run pos pins s2 σ H1 (fun vs H2 => spOf g n φ (.ref a :: (vs ++ dvs)) H2 Q E) I2 ⟨ρ, al1, s1, er, st, Post.bind p fun ds s3 vs H2 al2 hds t st2 rs2 p2 => ?_⟩) fun us s3 ⟨vs, H2, I3, r, q2⟩ => ⟨I3.kIn, ?_⟩) (star_cons hp.1) (star_any hp.2)
    · have r2 := rs2.append (hdd H2 al2)
      exact ⟨by simp only [List.length_cons]; rw [r2.length, List.length_append, hl _ _ _ _ hds]; exact hn, g.F, _, al2, s3, .cons (rp.tr t) r2, st2, p2⟩
    · exact run_fn (us := .ref a :: us) (vs := .ref a :: vs) F hr hb hd hx I3 (.cons rfl r) q2
theorem me_meth0 {disp : Nat → Option (List D → Sto → Rs D)} {o : Expr} {mo : MD D} {m : Str} {apos : Pos} (hK : g.K = X.K) (hr : Room kk X.A) (hd : Vals dvs dsv) (hdd : ∀ H al, Reps g H al dvs dds) (hx : Passes CX X E)
    (hM : ∀ c φ, disp c = some φ → MtOk X g CX kk n dsv m c φ) (ho : PE X o (TX g E mo)) (hbo : baseOk o = true) (hn : dds.length + 1 = n) (hpo : (apos.endLine == pos.line) = true) :
    PE X (.Call (.Attribute o m apos) [] [] pos) (TX g E (mMeth disp dds mo mNil)) := by
  refine ⟨fun pins s σ H Q I h => ?_⟩
  have ht := ht_of (m := m) (args := []) (env := X.env) hbo rfl (by decide) hpo
  refine methcall_of (args := []) ho I (TG.bind (k := fun x ρ s => optD ((clsD x s).bind disp) fun φ => (mNil ρ s).bind fun ds s => φ (x :: (ds ++ dds)) s) h fun x v H1 al1 ρ s1 er st rp p => ?_) ht
  obtain ⟨φ, e0, p⟩ := optD_inv (β := Nat) (γ := Nat) p
  cases ec : clsD x s1 with
  | none => rw [ec] at e0; cases e0
  | some c =>
    rw [ec] at e0
    obtain ⟨es', eo⟩ := clsD_as ec
    obtain ⟨a, dx, vs0, rfl, e2, l, rs⟩ := asO_ok st rp eo
    have M := hM c φ e0
    obtain ⟨f, fd, ps, mt, F, hb⟩ := M.ex
    refine ⟨a, g.ca c, dx, _, f, rfl, e2, by rw [← hK]; exact M.cl.cl, by rw [← hK]; exact mt, lookup_zip_none M.no, fun s2 I2 => ?_⟩
    have r2 := hdd H1 al1
    have hsp : spOf g n φ (.ref a :: dvs) H1 Q E := ⟨by simp only [List.length_cons]; rw [r2.length]; exact hn, g.F, _, al1, s1, .cons rp r2, st, p⟩
    exact PySem.W.callWith_K0 (first := [.ref a]) I2.kIn (by rw [← hK]; exact mt.kp) (run_fn (us := [.ref a]) (vs := [.ref a]) F hr hb hd hx I2 (.cons rfl .nil) hsp)
end
end Mx
namespace Mx
open PySem L2
variable {g : G} {E : XK} {X : Cx} {H : Hp} {al : List Addr} {s : Sto} {σ : St} {ρ : Ro}
def CallOk (g : G) (E : XK) (r : List V → Hp → VK → Prop) (f : List D → Sto → Rs D) : Prop :=
  ∀ (H : Hp) (al : List Addr) (s : Sto) (ds : List D) (vs : List V) (Q : VK), StOk g H al s → Reps g H al vs ds → Post g E (Rep g) (f ds s) H al Q → r vs H Q
theorem CallR.or {f : Value} {r r' : List V → Hp → VK → Prop} (h : CallR X f r) (h' : CallR X f r') : CallR X f (fun xs H Q => r xs H Q ∨ r' xs H Q) := by
  intro pins s σ H xs us Q I rv q
  rcases q with q | q
  · exact h pins s σ H xs us Q I rv q
  · exact h' pins s σ H xs us Q I rv q
def mCallB (f : List D → Sto → Rs D) (ms : MD (List D)) : MD D := fun ρ s => (ms ρ s).bind f
section
variable {r : List V → Hp → VK → Prop} {f : List D → Sto → Rs D} {x : Str} {p pos : Pos} {e : Expr} {es : List Expr} {ms : MD (List D)} {id T : String}
theorem tx_cb {Q : VK} (hf : CallOk g E r f) (h : TX g E (mCallB f ms) σ H Q) : tCB r (TXs g E ms) σ H Q := by
  obtain ⟨ρ, al, s, e, st, p⟩ := h
  exact ⟨ρ, al, s, e, st, Post.bind p fun ds s1 vs H1 al1 hds t st1 rs p1 => hf H1 al1 s1 ds vs Q st1 rs p1⟩
theorem me_cb (hc : CallR X (.builtin id) r) (hf : CallOk g E r f) (hg : Gl X x) (hm : X.mg x = none) (hv : bootBuiltins x = some (.builtin id)) (hn : x ≠ "__name__") (hdb : (x == ("__debug__" : Str)) = false) (ha : PA X (e :: es) (TXs g E ms)) (hp : (e :: es).all plainE = true) :
    PE X (.Call (.Name x p) (e :: es) [] pos) (TX g E (mCallB f ms)) := by
  rw [List.all_cons, Bool.and_eq_true] at hp
  exact pe_mono (pe_callB hc hg hm hv ha hn hdb (star_cons hp.1) (star_any hp.2)) fun σ H Q h => tx_cb hf h
theorem me_ct (hc : CallR X (.type T) r) (hf : CallOk g E r f) (hg : Gl X x) (hm : X.mg x = none) (hv : bootBuiltins x = some (.type T)) (hn : x ≠ "__name__") (hdb : (x == ("__debug__" : Str)) = false) (ha : PA X (e :: es) (TXs g E ms)) (hp : (e :: es).all plainE = true) :
    PE X (.Call (.Name x p) (e :: es) [] pos) (TX g E (mCallB f ms)) := by
  rw [List.all_cons, Bool.and_eq_true] at hp
  exact pe_mono (pe_callTy hc hg hm hv ha (hn := hn) (hdb := hdb) (he := star_cons hp.1) (hpl := star_any hp.2)) fun σ H Q h => tx_cb hf h
end
theorem Reps.one {vs : List V} {d : D} (h : Reps g H al vs [d]) : ∃ v, vs = [v] ∧ Rep g H al v d := by
  cases h with | cons h1 h2 => cases h2; exact ⟨_, rfl, h1⟩
theorem Reps.two {vs : List V} {d e : D} (h : Reps g H al vs [d, e]) : ∃ v w, vs = [v, w] ∧ Rep g H al v d ∧ Rep g H al w e := by
  cases h with | cons h1 h2 => cases h2 with | cons h3 h4 => cases h4; exact ⟨_, _, rfl, h1, h3⟩
def lenD : List D → Sto → Rs D
  | [.str z], s => if z.length ≤ sizeLine then .ok (.int z.length) s else .bad
  | [x], s => match itemsOf x s with
    | some ds => .ok (.int ds.length) s
    | none => optD (dictN x s) fun n => .ok (.int (n : Nat)) s
  | _, _ => .bad
theorem ok_len (hK : g.K = X.K) : CallOk g E (fun xs H Q => (∃ x n, xs = [x] ∧ LenV X.K x H n ∧ Q (.int n) H) ∨ rLenD xs H Q) lenD := by
  intro H al s ds vs Q st rs p
  unfold lenD at p
  split at p
  · rename_i z
    obtain ⟨v, rfl, r⟩ := rs.one
    cases r.str_inv
    by_cases hz : z.length ≤ sizeLine
    · rw [if_pos hz] at p
      exact .inl ⟨_, z.length, rfl, ⟨hz, rfl⟩, p _ _ _ .refl st (.int _)⟩
    · rw [if_neg hz] at p; exact p.elim
  · rename_i x hx
    obtain ⟨v, rfl, r⟩ := rs.one
    split at p
    · rename_i es e0
      by_cases hy : ∃ es, x = .tup es
      · obtain ⟨es', rfl⟩ := hy
        cases e0
        obtain ⟨pa, ws, rfl, sq, rr⟩ := tup_ok r
        rw [hK] at sq
        refine .inl ⟨_, ws.length, rfl, .inr ⟨ws, sq, rfl⟩, ?_⟩
        rw [rr.length]
        exact p _ _ _ .refl st (.int _)
      · have e0' : asL x s = some es := by
          cases x <;> first | exact e0 | exact absurd ⟨_, rfl⟩ hy
        obtain ⟨pa, ws, rfl, sq, rr⟩ := asL_ok st r e0'
        rw [hK] at sq
        refine .inl ⟨_, ws.length, rfl, .inl ⟨ws, sq, rfl⟩, ?_⟩
        rw [rr.length]
        exact p _ _ _ .refl st (.int _)
    · obtain ⟨m, em, p⟩ := optD_inv (β := Nat) (γ := Nat) p
      obtain ⟨a, rfl, hh⟩ := dictN_ok st r em
      exact .inr ⟨a, m, rfl, hh, p _ _ _ .refl st (.int _)⟩
  · exact p.elim
def strD : List D → Sto → Rs D
  | [.int i], s => if i.natAbs.log2 < 1920 then .ok (.str (toString i)) s else .bad
  | _, _ => .bad
theorem ok_str : CallOk g E (fun xs H Q => ∃ i, xs = [.int i] ∧ i.natAbs.log2 < 1920 ∧ Q (.str (toString i)) H) strD := by
  intro H al s ds vs Q st rs p
  unfold strD at p
  split at p
  · rename_i i
    obtain ⟨v, rfl, r⟩ := rs.one
    cases r.int_inv
    by_cases hz : i.natAbs.log2 < 1920
    · rw [if_pos hz] at p
      exact ⟨i, rfl, hz, p _ _ _ .refl st (.str _)⟩
    · rw [if_neg hz] at p; exact p.elim
  · exact p.elim
def intD1 : List D → Sto → Rs D
  | [.int i], s => .ok (.int i) s
  | [.bl k], s => .ok (.int (if k then 1 else 0)) s
  | [.str z], s => if z.length ≤ 640 then optD (PySem.intText? z) fun n => .ok (.int n) s else .bad
  | _, _ => .bad
def rIntAll : List V → Hp → VK → Prop := fun xs H Q => ((∃ i, xs = [.int i] ∧ Q (.int i) H) ∨ ∃ k, xs = [.bl k] ∧ Q (.int (if k then 1 else 0)) H) ∨ (∃ a n, xs = [.str a] ∧ PySem.intText? a = some n ∧ a.length ≤ 640 ∧ Q (.int n) H)
theorem cr_int : CallR X (.type "int") rIntAll := CallR.or call_int1 call_int_str
theorem ok_int1 : CallOk g E rIntAll intD1 := by
  intro H al s ds vs Q st rs p
  unfold intD1 at p
  split at p
  · obtain ⟨v, rfl, r⟩ := rs.one
    cases r.int_inv
    exact .inl (.inl ⟨_, rfl, p _ _ _ .refl st (.int _)⟩)
  · obtain ⟨v, rfl, r⟩ := rs.one
    cases r.bl_inv
    exact .inl (.inr ⟨_, rfl, p _ _ _ .refl st (.int _)⟩)
  · rename_i z
    obtain ⟨v, rfl, r⟩ := rs.one
    cases r.str_inv
    by_cases hz : z.length ≤ 640
    · rw [if_pos hz] at p
      obtain ⟨n, e0, p⟩ := optD_inv (β := Nat) (γ := Nat) p
      exact .inr ⟨z, n, rfl, e0, hz, p _ _ _ .refl st (.int _)⟩
    · rw [if_neg hz] at p; exact p.elim
  · exact p.elim
def absD : List D → Sto → Rs D
  | [.int i], s => .ok (.int (if i < 0 then -i else i)) s
  | _, _ => .bad
theorem ok_abs : CallOk g E (fun xs H Q => ∃ i, xs = [.int i] ∧ Q (.int (if i < 0 then -i else i)) H) absD := by
  intro H al s ds vs Q st rs p
  unfold absD at p
  split at p
  · obtain ⟨v, rfl, r⟩ := rs.one
    cases r.int_inv
    exact ⟨_, rfl, p _ _ _ .refl st (.int _)⟩
  · exact p.elim
/-- the ints of a list -/
def intsOf : List D → Option (List Int)
  | [] => some []
  | .int i :: r => (intsOf r).map (i :: ·)
  | _ => none
theorem intsOf_map : ∀ (is : List Int), intsOf (is.map D.int) = some is
  | [] => rfl
  | i :: r => by rw [List.map_cons, intsOf, intsOf_map r]; rfl
theorem intsOf_inv : ∀ {ds : List D} {is : List Int}, intsOf ds = some is → ds = is.map D.int
  | [], _, h => by cases h; rfl
  | .int i :: r, is, h => by
    rw [intsOf] at h
    cases e : intsOf r with
    | none => rw [e] at h; cases h
    | some js => rw [e] at h; cases h; rw [List.map_cons, intsOf_inv e]
  | .non :: _, _, h => by cases h
  | .bl _ :: _, _, h => by cases h
  | .str _ :: _, _, h => by cases h
  | .tup _ :: _, _, h => by cases h
  | .lst _ :: _, _, h => by cases h
  | .obj _ _ :: _, _, h => by cases h
  | .ref _ :: _, _, h => by cases h
  | .frz _ :: _, _, h => by cases h
theorem reps_ints : ∀ {is : List Int} {vs : List V}, Reps g H al vs (is.map D.int) → vs = is.map V.int
  | [], _, h => by cases h; rfl
  | i :: r, _, h => by
    rw [List.map_cons] at h
    cases h with | cons h1 h2 => rw [h1.int_inv, reps_ints h2]; rfl
def listInts (x : D) (s : Sto) : Option (List Int) := (asL x s).bind intsOf
theorem listInts_ok {x : D} {v : V} {is : List Int} (st : StOk g H al s) (r : Rep g H al v x) (h : listInts x s = some is) : ∃ p, v = .ref p ∧ SqL g.K H p (is.map V.int) := by
  unfold listInts at h
  cases e : asL x s with
  | none => rw [e] at h; cases h
  | some ds =>
    rw [e] at h
    obtain ⟨p, vs, rfl, sq, rs⟩ := asL_ok st r e
    have e2 : ds = is.map D.int := intsOf_inv h
    subst e2
    rw [reps_ints rs] at sq
    exact ⟨p, rfl, sq⟩
def maxD : List D → Sto → Rs D
  | [.int i, .int j], s => .ok (.int (if j > i then j else i)) s
  | [x], s => optD ((listInts x s).bind List.max?) fun m => .ok (.int m) s
  | _, _ => .bad
def minD : List D → Sto → Rs D
  | [.int i, .int j], s => .ok (.int (if j < i then j else i)) s
  | [x], s => optD ((listInts x s).bind List.min?) fun m => .ok (.int m) s
  | _, _ => .bad
def rMaxAll (K : PySem.W.Frag) : List V → Hp → VK → Prop := fun xs H Q => (∃ i j, xs = [.int i, .int j] ∧ Q (.int (if j > i then j else i)) H) ∨ rMax K xs H Q
def rMinAll (K : PySem.W.Frag) : List V → Hp → VK → Prop := fun xs H Q => (∃ i j, xs = [.int i, .int j] ∧ Q (.int (if j < i then j else i)) H) ∨ rMin K xs H Q
theorem ok_max (hK : g.K = X.K) : CallOk g E (rMaxAll X.K) maxD := by
  intro H al s ds vs Q st rs p
  unfold maxD at p
  split at p
  · obtain ⟨v, w, rfl, r1, r2⟩ := rs.two
    cases r1.int_inv; cases r2.int_inv
    exact .inl ⟨_, _, rfl, p _ _ _ .refl st (.int _)⟩
  · obtain ⟨v, rfl, r⟩ := rs.one
    obtain ⟨m, e0, p⟩ := optD_inv (β := Nat) (γ := Nat) p
    cases e1 : listInts _ s with
    | none => rw [e1] at e0; cases e0
    | some is =>
      rw [e1] at e0
      obtain ⟨pa, rfl, sq⟩ := listInts_ok st r e1
      rw [hK] at sq
      have hm := List.max?_eq_some_iff.mp (show is.max? = some m from e0)
      refine .inr ⟨pa, is, rfl, sq, List.length_pos_of_mem hm.1, fun m' h1 h2 => ?_⟩
      have : m' = m := Int.le_antisymm (hm.2 m' h1) (h2 m hm.1)
      rw [this]
      exact p _ _ _ .refl st (.int _)
  · exact p.elim
theorem ok_min (hK : g.K = X.K) : CallOk g E (rMinAll X.K) minD := by
  intro H al s ds vs Q st rs p
  unfold minD at p
  split at p
  · obtain ⟨v, w, rfl, r1, r2⟩ := rs.two
    cases r1.int_inv; cases r2.int_inv
    exact .inl ⟨_, _, rfl, p _ _ _ .refl st (.int _)⟩
  · obtain ⟨v, rfl, r⟩ := rs.one
    obtain ⟨m, e0, p⟩ := optD_inv (β := Nat) (γ := Nat) p
    cases e1 : listInts _ s with
    | none => rw [e1] at e0; cases e0
    | some is =>
      rw [e1] at e0
      obtain ⟨pa, rfl, sq⟩ := listInts_ok st r e1
      rw [hK] at sq
      have hm := List.min?_eq_some_iff.mp (show is.min? = some m from e0)
      refine .inr ⟨pa, is, rfl, sq, List.length_pos_of_mem hm.1, fun m' h1 h2 => ?_⟩
      have : m' = m := Int.le_antisymm (h2 m hm.1) (hm.2 m' h1)
      rw [this]
      exact p _ _ _ .refl st (.int _)
  · exact p.elim
def sumD : List D → Sto → Rs D
  | [x], s => optD (listInts x s) fun is => .ok (.int is.sum) s
  | _, _ => .bad
theorem ok_sum (hK : g.K = X.K) : CallOk g E (rSum X.K) sumD := by
  intro H al s ds vs Q st rs p
  unfold sumD at p
  split at p
  · obtain ⟨v, rfl, r⟩ := rs.one
    obtain ⟨is, e0, p⟩ := optD_inv (β := Nat) (γ := Nat) p
    obtain ⟨pa, rfl, sq⟩ := listInts_ok st r e0
    rw [hK] at sq
    exact ⟨pa, is, rfl, sq, p _ _ _ .refl st (.int _)⟩
  · exact p.elim
def listD (c : Bool) : List D → Sto → Rs D
  | [x], s => optD (itemsOf x s) fun ds => newL c ds s
  | _, _ => .bad
theorem items_ok {x : D} {v : V} {ds : List D} (st : StOk g H al s) (r : Rep g H al v x) (h : itemsOf x s = some ds) : ∃ p vs, v = .ref p ∧ (SqL g.K H p vs ∨ SqT g.K H p vs) ∧ Reps g H al vs ds := by
  by_cases hy : ∃ es, x = .tup es
  · obtain ⟨es', rfl⟩ := hy
    cases h
    obtain ⟨pa, ws, rfl, sq, rr⟩ := tup_ok r
    exact ⟨pa, ws, rfl, .inr sq, rr⟩
  · have e0' : asL x s = some ds := by
      cases x <;> first | exact h | exact absurd ⟨_, rfl⟩ hy
    obtain ⟨pa, ws, rfl, sq, rr⟩ := asL_ok st r e0'
    exact ⟨pa, ws, rfl, .inl sq, rr⟩
theorem ok_list {c : Bool} (hK : g.K = X.K) : CallOk g E (fun xs H Q => ∃ p ys, xs = [.ref p] ∧ (SqL X.K H p ys ∨ SqT X.K H p ys) ∧ ∀ l, H l = none → Q (.ref l) (upd H l (.lst ys))) (listD c) := by
  intro H al s ds vs Q st rs p
  unfold listD at p
  split at p
  · obtain ⟨v, rfl, r⟩ := rs.one
    obtain ⟨es, e0, p⟩ := optD_inv (β := Nat) (γ := Nat) p
    obtain ⟨pa, ws, rfl, sq, rr⟩ := items_ok st r e0
    rw [hK] at sq
    exact ⟨pa, ws, rfl, sq, post_newL st rr p⟩
  · exact p.elim
def tupleD : List D → Sto → Rs D
  | [x], s => optD (itemsOf x s) fun ds => .ok (.tup ds) s
  | _, _ => .bad
theorem ok_tuple (hK : g.K = X.K) : CallOk g E (fun xs H Q => ∃ p ys, xs = [.ref p] ∧ ((SqL X.K H p ys ∧ ∀ l, H l = none → Q (.ref l) (upd H l (.tup ys))) ∨ (SqT X.K H p ys ∧ Q (.ref p) H))) tupleD := by
  intro H al s ds vs Q st rs p
  unfold tupleD at p
  split at p
  · rename_i x
    obtain ⟨v, rfl, r⟩ := rs.one
    obtain ⟨es, e0, p⟩ := optD_inv (β := Nat) (γ := Nat) p
    by_cases hy : ∃ es, x = .tup es
    · obtain ⟨es', rfl⟩ := hy
      cases e0
      obtain ⟨pa, ws, rfl, sq, rr⟩ := tup_ok r
      rw [hK] at sq
      exact ⟨pa, ws, rfl, .inr ⟨sq, p _ _ _ .refl st r⟩⟩
    · have e0' : asL x s = some es := by
        cases x <;> first | exact e0 | exact absurd ⟨_, rfl⟩ hy
      obtain ⟨pa, ws, rfl, sq, rr⟩ := asL_ok st r e0'
      rw [hK] at sq
      exact ⟨pa, ws, rfl, .inl ⟨sq, post_newT st rr p⟩⟩
  · exact p.elim
def blsOf : List D → Option (List Bool)
  | [] => some []
  | .bl b :: r => (blsOf r).map (b :: ·)
  | _ => none
theorem blsOf_map : ∀ (bs : List Bool), blsOf (bs.map D.bl) = some bs
  | [] => rfl
  | i :: r => by rw [List.map_cons, blsOf, blsOf_map r]; rfl
theorem blsOf_inv : ∀ {ds : List D} {bs : List Bool}, blsOf ds = some bs → ds = bs.map D.bl
  | [], _, h => by cases h; rfl
  | .bl i :: r, is, h => by
    rw [blsOf] at h
    cases e : blsOf r with
    | none => rw [e] at h; cases h
    | some js => rw [e] at h; cases h; rw [List.map_cons, blsOf_inv e]
  | .non :: _, _, h => by cases h
  | .int _ :: _, _, h => by cases h
  | .str _ :: _, _, h => by cases h
  | .tup _ :: _, _, h => by cases h
  | .lst _ :: _, _, h => by cases h
  | .obj _ _ :: _, _, h => by cases h
  | .ref _ :: _, _, h => by cases h
  | .frz _ :: _, _, h => by cases h
theorem reps_bls : ∀ {is : List Bool} {vs : List V}, Reps g H al vs (is.map D.bl) → vs = is.map V.bl
  | [], _, h => by cases h; rfl
  | i :: r, _, h => by
    rw [List.map_cons] at h
    cases h with | cons h1 h2 => rw [h1.bl_inv, reps_bls h2]; rfl
def listBls (x : D) (s : Sto) : Option (List Bool) := (asL x s).bind blsOf
theorem listBls_ok {x : D} {v : V} {is : List Bool} (st : StOk g H al s) (r : Rep g H al v x) (h : listBls x s = some is) : ∃ p, v = .ref p ∧ SqL g.K H p (is.map V.bl) := by
  unfold listBls at h
  cases e : asL x s with
  | none => rw [e] at h; cases h
  | some ds =>
    rw [e] at h
    obtain ⟨p, vs, rfl, sq, rs⟩ := asL_ok st r e
    have e2 : ds = is.map D.bl := blsOf_inv h
    subst e2
    rw [reps_bls rs] at sq
    exact ⟨p, rfl, sq⟩
def anyD : List D → Sto → Rs D
  | [x], s => optD (listBls x s) fun bs => .ok (.bl (bs.any id)) s
  | _, _ => .bad
def allD : List D → Sto → Rs D
  | [x], s => optD (listBls x s) fun bs => .ok (.bl (bs.all id)) s
  | _, _ => .bad
theorem ok_any (hK : g.K = X.K) : CallOk g E (rAny X.K) anyD := by
  intro H al s ds vs Q st rs p
  unfold anyD at p
  split at p
  · obtain ⟨v, rfl, r⟩ := rs.one
    obtain ⟨is, e0, p⟩ := optD_inv (β := Nat) (γ := Nat) p
    obtain ⟨pa, rfl, sq⟩ := listBls_ok st r e0
    rw [hK] at sq
    exact ⟨pa, is, rfl, sq, p _ _ _ .refl st (.bl _)⟩
  · exact p.elim
theorem ok_all (hK : g.K = X.K) : CallOk g E (rAll X.K) allD := by
  intro H al s ds vs Q st rs p
  unfold allD at p
  split at p
  · obtain ⟨v, rfl, r⟩ := rs.one
    obtain ⟨is, e0, p⟩ := optD_inv (β := Nat) (γ := Nat) p
    obtain ⟨pa, rfl, sq⟩ := listBls_ok st r e0
    rw [hK] at sq
    exact ⟨pa, is, rfl, sq, p _ _ _ .refl st (.bl _)⟩
  · exact p.elim
def pD (p : Int × Int) : D := .tup [.int p.1, .int p.2]
def pairOf : D → Option (Int × Int)
  | .tup [.int i, .int j] => some (i, j)
  | _ => none
theorem pairOf_ok {d : D} {p : Int × Int} (h : pairOf d = some p) : d = pD p := by
  unfold pairOf at h
  split at h
  · cases h; rfl
  · cases h
theorem pairs_ok : ∀ {ds : List D} {ps : List (Int × Int)}, allSome (ds.map pairOf) = some ps → ds = ps.map pD
  | [], ps, h => by cases (show (some [] : Option (List (Int × Int))) = some ps from h); rfl
  | d :: ds, ps, h => by
    rw [List.map_cons] at h
    cases e : pairOf d with
    | none => rw [e] at h; cases h
    | some p =>
      rw [e] at h
      obtain ⟨l, e2, rfl⟩ := Option.map_eq_some_iff.mp (show (allSome (ds.map pairOf)).map (p :: ·) = some ps from h)
      rw [List.map_cons, pairOf_ok e, pairs_ok e2]
def leP (a b : Int × Int) : Bool := !SrtO.lexB b a
theorem leP_iff {a b : Int × Int} : leP a b = true ↔ a.1 < b.1 ∨ (a.1 = b.1 ∧ a.2 ≤ b.2) := by
  unfold leP
  cases h : SrtO.lexB b a with
  | false =>
    have := SrtO.lexB_no.mp h
    simp; omega
  | true =>
    have := SrtO.lexB_iff.mp h
    simp; omega
def srtP (l : List (Int × Int)) : List (Int × Int) := l.mergeSort leP
theorem srtP_perm (l : List (Int × Int)) : (srtP l).Perm l := List.mergeSort_perm l leP
theorem srtP_pw (l : List (Int × Int)) : (srtP l).Pairwise fun a b => leP a b = true := List.pairwise_mergeSort (fun a b c h1 h2 => by rw [leP_iff] at *; omega) (fun a b => by
  rw [Bool.or_eq_true, leP_iff, leP_iff]; omega) l
theorem srtP_uniq {l m : List (Int × Int)} (h : l.Perm m) (hs : l.Pairwise fun a b => leP a b = true) : l = srtP m :=
  List.Perm.eq_of_pairwise (fun a b _ _ h1 h2 => by
    rw [leP_iff] at h1 h2
    exact Prod.ext (by omega) (by omega)) hs (srtP_pw m) (h.trans (srtP_perm m).symm)
def srtI (l : List Int) : List Int := l.mergeSort fun a b => decide (a ≤ b)
theorem srtI_perm (l : List Int) : (srtI l).Perm l := List.mergeSort_perm l _
theorem srtI_pw (l : List Int) : (srtI l).Pairwise fun a b => a ≤ b := by
  have := List.pairwise_mergeSort (le := fun a b : Int => decide (a ≤ b)) (fun a b c h1 h2 => by simp only [decide_eq_true_eq] at *; omega) (fun a b => by simp; omega) l
  exact this.imp fun h => of_decide_eq_true h
theorem srtI_uniq {l m : List Int} (h : l.Perm m) (hs : l.Pairwise fun a b => a ≤ b) : l = srtI m :=
  List.Perm.eq_of_pairwise (fun a b _ _ h1 h2 => by omega) hs (srtI_pw m) (h.trans (srtI_perm m).symm)
def sortD (c : Bool) : List D → Sto → Rs D
  | [x], s => optD (asL x s) fun ds => match allSome (ds.map pairOf) with
    | some ps => if ktB = true then .bad else newL c ((srtP ps).map pD) s
    | none => optD (intsOf ds) fun ns => newL c ((srtI ns).map D.int) s
  | _, _ => .bad
def keyV (H : Hp) : V → Int × Int
  | .ref t => match H t with
    | some (.tup [.int i, .int j]) => (i, j)
    | _ => (0, 0)
  | _ => (0, 0)
theorem reps_pairs (z : ¬ ktB = true) : ∀ {vs : List V} {ps : List (Int × Int)}, Reps g H al vs (ps.map pD) → vs.map (keyV H) = ps ∧ ∀ x ∈ vs, (∃ t, x = .ref t ∧ H t = some (.tup [.int (keyV H x).1, .int (keyV H x).2])) ∧ Rep g H al x (pD (keyV H x))
  | [], ps, r => by cases ps with | nil => exact ⟨rfl, fun _ h => nomatch h⟩ | cons _ _ => cases r
  | v :: vs, ps, r => by
    cases ps with
    | nil => cases r
    | cons p ps =>
      rw [List.map_cons] at r
      cases r with
      | cons r1 r2 =>
        obtain ⟨e, h⟩ := reps_pairs z r2
        have k : keyV H v = p ∧ ∃ t, v = .ref t ∧ H t = some (.tup [.int p.1, .int p.2]) := by
          unfold pD at r1
          cases r1 with
          | tupH h1 o rs =>
            obtain ⟨a, b, rfl, ra, rb⟩ := rs.two
            cases ra.int_inv; cases rb.int_inv
            refine ⟨?_, _, rfl, h1⟩
            unfold keyV
            simp only [h1]
          | tupK q _ _ => exact absurd q z
        refine ⟨by rw [List.map_cons, e, k.1], fun x hx => ?_⟩
        rcases List.mem_cons.mp hx with rfl | hx
        · rw [k.1]; exact ⟨k.2, r1⟩
        · exact h x hx
theorem reps_of_all {f : V → D} : ∀ {vs : List V}, (∀ x ∈ vs, Rep g H al x (f x)) → Reps g H al vs (vs.map f)
  | [], _ => .nil
  | v :: vs, h => .cons (h v List.mem_cons_self) (reps_of_all fun x hx => h x (List.mem_cons_of_mem _ hx))
theorem ok_sort {c : Bool} (hK : g.K = X.K) : CallOk g E (fun xs H Q => rSortedPO X.K xs H Q ∨ rSortedI X.K xs H Q) (sortD c) := by
  intro H al s ds vs Q st rs p
  unfold sortD at p
  split at p
  · rename_i x
    obtain ⟨v, rfl, r⟩ := rs.one
    obtain ⟨es, e0, p1⟩ := optD_inv (β := Nat) (γ := Nat) p
    obtain ⟨pa, ws, rfl, sq, rr⟩ := asL_ok st r e0
    rw [hK] at sq
    cases e1 : allSome (es.map pairOf) with
    | some ps =>
      simp only [e1] at p1
      by_cases z : ktB = true
      · rw [if_pos z] at p1; exact p1.elim
      · rw [if_neg z] at p1
        rw [pairs_ok e1] at rr
        obtain ⟨hk, hx⟩ := reps_pairs z rr
        refine .inl ⟨pa, ws, keyV H, rfl, sq, fun x m => (hx x m).1, fun ys q srt stb hn => ?_⟩
        have hu : ys.map (keyV H) = srtP ps := srtP_uniq (by rw [← hk]; exact stb.perm.map _) (List.pairwise_map.mpr (srt.imp fun {a b} h => by
          show leP (keyV H a) (keyV H b) = true
          unfold leP
          rw [show SrtO.lexB (keyV H b) (keyV H a) = false from h]; rfl))
        have rys : Reps g H al ys ((srtP ps).map pD) := by
          rw [← hu, List.map_map]
          exact reps_of_all fun x m => (hx x (stb.perm.mem_iff.mp m)).2
        exact post_newL st rys p1 q hn
    | none =>
      simp only [e1] at p1
      obtain ⟨ns, e2, p2⟩ := optD_inv (β := Nat) (γ := Nat) p1
      rw [intsOf_inv e2] at rr
      have hw := reps_ints rr
      subst hw
      refine .inr ⟨pa, ns, rfl, sq, fun ns' q hp hs hn => ?_⟩
      have hu : ns' = srtI ns := srtI_uniq hp hs
      subst hu
      exact post_newL st .ints p2 q hn
  · exact p.elim
inductive BI where
  | len | str | int | abs | max | min | sum | list (c : Bool) | tuple | any | all | sorted (c : Bool)
def BI.nm : BI → Str
  | .len => "len" | .str => "str" | .int => "int" | .abs => "abs" | .max => "max" | .min => "min" | .sum => "sum" | .list _ => "list" | .tuple => "tuple" | .any => "any" | .all => "all" | .sorted _ => "sorted"
def BI.sem : BI → List D → Sto → Rs D
  | .len => lenD | .str => strD | .int => intD1 | .abs => absD | .max => maxD | .min => minD | .sum => sumD | .list c => listD c | .tuple => tupleD | .any => anyD | .all => allD | .sorted c => sortD c
theorem me_bi (b : BI) {x : Str} {p pos : Pos} {e : Expr} {es : List Expr} {ms : MD (List D)} (hx : x = b.nm) (hK : g.K = X.K) (hc : X.calm = true) (hg : Gl X x) (hm : X.mg x = none) (ha : PA X (e :: es) (TXs g E ms)) (hp : (e :: es).all plainE = true) :
    PE X (.Call (.Name x p) (e :: es) [] pos) (TX g E (mCallB b.sem ms)) := by
  subst hx
  cases b with
  | len => exact me_cb (CallR.or call_len cr_lenD) (ok_len hK) hg hm PySem.boot_len (by decide) (by decide) ha hp
  | str => exact me_ct call_str_int ok_str hg hm (by decide +kernel) (by decide) (by decide) ha hp
  | int => exact me_ct cr_int ok_int1 hg hm (by decide +kernel) (by decide) (by decide) ha hp
  | abs => exact me_cb call_abs ok_abs hg hm PyProof.Rows.boot_abs (by decide) (by decide) ha hp
  | max => exact me_cb (CallR.or (call_max2 hc) (cr_max hc)) (ok_max hK) hg hm (by decide +kernel) (by decide) (by decide) ha hp
  | min => exact me_cb (CallR.or (call_min2 hc) (cr_min hc)) (ok_min hK) hg hm (by decide +kernel) (by decide) (by decide) ha hp
  | sum => exact me_cb (cr_sum hc) (ok_sum hK) hg hm (by decide +kernel) (by decide) (by decide) ha hp
  | list c => exact me_ct call_list_of (ok_list hK) hg hm (by show bootBuiltins "list" = _; decide +kernel) (by show ("list" : Str) ≠ _; decide) (by show (("list" : Str) == _) = _; decide) ha hp
  | tuple => exact me_ct call_tuple_of (ok_tuple hK) hg hm (by decide +kernel) (by decide) (by decide) ha hp
  | any => exact me_cb (cr_any hc) (ok_any hK) hg hm (by decide +kernel) (by decide) (by decide) ha hp
  | all => exact me_cb (cr_all hc) (ok_all hK) hg hm (by decide +kernel) (by decide) (by decide) ha hp
  | sorted c => exact me_cb (CallR.or cr_sortedPO cr_sortedI) (ok_sort hK) hg hm (by show bootBuiltins "sorted" = _; decide +kernel) (by show ("sorted" : Str) ≠ _; decide) (by show (("sorted" : Str) == _) = _; decide) ha hp
end Mx
namespace Mx
open PySem L2
variable {g : G} {E : XK} {X : Cx} {H : Hp} {al : List Addr} {s : Sto} {σ : St} {ρ : Ro}
def MtRok (g : G) (E : XK) (r : V → List V → Hp → VK → Prop) (f : D → List D → Sto → Rs D) : Prop :=
  ∀ (H : Hp) (al : List Addr) (s : Sto) (x : D) (v : V) (ds : List D) (vs : List V) (Q : VK), StOk g H al s → Rep g H al v x → Reps g H al vs ds → Post g E (Rep g) (f x ds s) H al Q → r v vs H Q
inductive BT where
  | list | str | dict
def BT.nm : BT → String
  | .list => "list" | .str => "str" | .dict => "dict"
def isTy : BT → D → Sto → Bool
  | .list, x, s => (asL x s).isSome
  | .str, .str _, _ => true
  | .str, _, _ => false
  | .dict, .ref n, s => match s[n]? with
    | some (.dK _) => true
    | some (.dT _) => true
    | _ => false
  | .dict, _, _ => false
theorem isTy_ok {T : BT} {x : D} {v : V} (hK : g.K = X.K) (st : StOk g H al s) (r : Rep g H al v x) (h : isTy T x s = true) : tyV X.K T.nm v H := by
  cases T with
  | list =>
    cases e : asL x s with
    | none => rw [isTy, e] at h; cases h
    | some ds =>
      obtain ⟨p, vs, rfl, sq, rs⟩ := asL_ok st r e
      rw [hK] at sq
      exact .inl ⟨rfl, vs, sq⟩
  | str =>
    cases x <;> first | (cases h; done) | skip
    cases r.str_inv
    exact (rfl : BT.nm .str = "str")
  | dict =>
    cases x <;> first | (cases h; done) | skip
    rename_i n
    cases r with
    | ref hp =>
      rename_i p
      cases e : s[n]? with
      | none => simp only [isTy, e] at h; cases h
      | some c =>
        have cell := st.cell n _ _ hp e
        cases c with
        | dK kvs => obtain ⟨kv, e1, _⟩ := cell; exact .inr (.inr (.inl ⟨rfl, .inl ⟨kv, e1⟩⟩))
        | dT kvs => obtain ⟨kv, e1, _⟩ := cell; exact .inr (.inr (.inl ⟨rfl, .inr ⟨kv, e1⟩⟩))
        | _ => simp only [isTy, e] at h; cases h
def mBM (T : BT) (f : D → List D → Sto → Rs D) (o : MD D) (ms : MD (List D)) : MD D := fun ρ s => (o ρ s).bind fun x s => if isTy T x s = true then (ms ρ s).bind fun ds s => f x ds s else .bad
section
variable {r : V → List V → Hp → VK → Prop} {f : D → List D → Sto → Rs D} {o e : Expr} {es : List Expr} {name : Str} {apos cpos : Pos} {id : String} {mo : MD D} {ms : MD (List D)} {T : BT}
theorem me_bm (hK : g.K = X.K) (pa : PlainAttrs T.nm) (slot : Slot T.nm name id) (hty : typeOf (.builtin id) = pure (.type "method_descriptor")) (hm : MtR X id r) (hf : MtRok g E r f) (ho : PE X o (TX g E mo)) (hb : baseOk o = true)
    (ha : PA X (e :: es) (TXs g E ms)) (hp : (e :: es).all plainE = true) (h28 : (e :: es).length < 29) (hline : (apos.endLine == cpos.line) = true) : PE X (.Call (.Attribute o name apos) (e :: es) [] cpos) (TX g E (mBM T f mo ms)) := by
  have hfew : ((backTo cpos (starEach (e :: es) X.env)).all (fun x => !x.1) && (backToKw cpos (keywordEach [] X.env)).all (fun x => x.1.isSome)
      && decide ((e :: es).length + ([] : List Keyword).length + (if ([] : List Keyword).isEmpty then 0 else 1) < 30)) = true := by
    have h1 : (backTo cpos (starEach (e :: es) X.env)).all (fun x => !x.1) = true := by
      have := star_any (env := X.env) (pos := cpos) hp
      rw [List.all_eq_not_any_not]
      simpa using this
    rw [h1]
    simp only [keywordEach, backToKw, List.map_nil, List.all_nil, Bool.true_and, decide_eq_true_eq, List.length_nil]
    have : ([] : List Keyword).isEmpty = true := rfl
    rw [this, if_pos rfl]; omega
  rw [List.all_cons, Bool.and_eq_true] at hp
  refine pe_mono (pe_bm pa slot hty hm ho ha (base_of hb) hfew hline (star_cons hp.1) (star_any hp.2)) fun σ H Q h => TG.bind (k := fun x ρ s => if isTy T x s = true then (ms ρ s).bind fun ds s => f x ds s else .bad) h fun x v H1 al1 ρ s1 er st rp p => ?_
  by_cases ht : isTy T x s1 = true
  · simp only [if_pos ht] at p
    exact ⟨isTy_ok hK st rp ht, ρ, al1, s1, er, st, Post.bind p fun ds s2 vs H2 al2 hds t st2 rs2 p2 => hf H2 al2 s2 x v ds vs Q st2 (rp.tr t) rs2 p2⟩
  · simp only [if_neg ht] at p; exact p.elim
theorem me_bm0 (hK : g.K = X.K) (pa : PlainAttrs T.nm) (slot : Slot T.nm name id) (hty : typeOf (.builtin id) = pure (.type "method_descriptor")) (hm : MtR X id r) (hf : MtRok g E r f) (ho : PE X o (TX g E mo)) (hb : baseOk o = true)
    (hline : (apos.endLine == cpos.line) = true) : PE X (.Call (.Attribute o name apos) [] [] cpos) (TX g E (mBM T f mo mNil)) := by
  refine pe_mono (pe_bm0 pa slot hty hm ho (base_of hb) hline) fun σ H Q h => TG.bind (k := fun x ρ s => if isTy T x s = true then (mNil ρ s).bind fun ds s => f x ds s else .bad) h fun x v H1 al1 ρ s1 er st rp p => ?_
  by_cases ht : isTy T x s1 = true
  · simp only [if_pos ht] at p
    exact ⟨isTy_ok hK st rp ht, hf H1 al1 s1 x v [] [] Q st rp .nil p⟩
  · simp only [if_neg ht] at p; exact p.elim
end
theorem post_wr {n : Nat} {p : Addr} {vs : List V} {ds : List D} {d : D} {v : V} {Q : VK} (st : StOk g H al s) (hp : al[n]? = some p) (hq : ∃ xs, H p = some (.lst xs)) (rs : Reps g H al vs ds) (rv : Rep g H al v d) (h : Post g E (Rep g) (.ok d (s.set n (.lst ds))) H al Q) : Q v (upd H p (.lst vs)) := by
  obtain ⟨xs, e1⟩ := hq
  have t : Tr g al H al (upd H p (.lst vs)) := .write hp e1 (fun _ _ z => nomatch z)
  exact h _ _ _ t (st.write hp ⟨vs, upd_same, rs.tr t⟩) (rv.tr t)
def cellAtL (x : D) (s : Sto) : Option (Nat × List D) := match x with
  | .ref n => (cellL s[n]?).map fun ds => (n, ds)
  | _ => none
theorem cellAtL_ok {x : D} {v : V} {n : Nat} {ds : List D} (st : StOk g H al s) (r : Rep g H al v x) (h : cellAtL x s = some (n, ds)) : ∃ p vs, x = .ref n ∧ al[n]? = some p ∧ v = .ref p ∧ H p = some (.lst vs) ∧ Reps g H al vs ds := by
  cases x <;> first | (cases h; done) | skip
  rename_i m
  have h' : (cellL s[m]?).map (fun ds => (m, ds)) = some (n, ds) := h
  cases e : cellL s[m]? with
  | none => rw [e] at h'; cases h'
  | some es =>
    rw [e] at h'; cases h'
    cases r with
    | ref hp =>
      obtain ⟨vs, e1, rs⟩ := st.cell n _ _ hp (cellL_inv e)
      exact ⟨_, vs, rfl, hp, rfl, e1, rs⟩
def appendD : D → List D → Sto → Rs D
  | x, [y], s => optD (cellAtL x s) fun c => if c.2.length < sizeLine then .ok .non (s.set c.1 (.lst (c.2 ++ [y]))) else .bad
  | _, _, _ => .bad
theorem ok_append : MtRok g E rAppend appendD := by
  intro H al s x v ds vs Q st rx rs p
  unfold appendD at p
  split at p
  · obtain ⟨w, rfl, ry⟩ := rs.one
    obtain ⟨⟨n, es⟩, e0, p1⟩ := optD_inv (β := Nat) (γ := Nat) p
    clear p
    have p := p1
    clear p1
    obtain ⟨pa, us, rfl, hp, rfl, e1, rr⟩ := cellAtL_ok st rx e0
    by_cases hl : es.length < sizeLine
    · simp only [if_pos hl] at p
      exact ⟨pa, us, w, rfl, rfl, e1, by rw [rr.length]; exact hl, post_wr st hp ⟨_, e1⟩ (rr.append (.cons ry .nil)) .non p⟩
    · simp only [if_neg hl] at p; exact p.elim
  · exact p.elim
def extendD : D → List D → Sto → Rs D
  | x, [y], s => optD (cellAtL x s) fun c => optD (asH y s) fun es => if c.2.length + es.length ≤ sizeLine then .ok .non (s.set c.1 (.lst (c.2 ++ es))) else .bad
  | _, _, _ => .bad
theorem ok_extend : MtRok g E rExtend extendD := by
  intro H al s x v ds vs Q st rx rs p
  unfold extendD at p
  split at p
  · obtain ⟨w, rfl, ry⟩ := rs.one
    obtain ⟨⟨n, es⟩, e0, p1⟩ := optD_inv (β := Nat) (γ := Nat) p
    clear p
    have p := p1
    clear p1
    obtain ⟨fs, e2, p1⟩ := optD_inv (β := Nat) (γ := Nat) p
    clear p
    have p := p1
    clear p1
    obtain ⟨pa, us, rfl, hp, rfl, e1, rr⟩ := cellAtL_ok st rx e0
    obtain ⟨pb, ws, rfl, e3, rr2⟩ := asH_ok st ry e2
    by_cases hl : es.length + fs.length ≤ sizeLine
    · simp only [if_pos hl] at p
      exact ⟨pa, pb, us, ws, rfl, rfl, e1, e3, by rw [rr.length, rr2.length]; exact hl, post_wr st hp ⟨_, e1⟩ (rr.append rr2) .non p⟩
    · simp only [if_neg hl] at p; exact p.elim
  · exact p.elim
def pop0D : D → List D → Sto → Rs D
  | x, [], s => optD (cellAtL x s) fun c => optD c.2[c.2.length - 1]? fun y => .ok y (s.set c.1 (.lst c.2.dropLast))
  | _, _, _ => .bad
theorem Reps.dropLast {vs : List V} {ds : List D} (h : Reps g H al vs ds) : Reps g H al vs.dropLast ds.dropLast := by
  rw [List.dropLast_eq_take, List.dropLast_eq_take, h.length]; exact h.take _
theorem ok_pop0 : MtRok g E rPop pop0D := by
  intro H al s x v ds vs Q st rx rs p
  unfold pop0D at p
  split at p
  · cases rs
    obtain ⟨⟨n, es⟩, e0, p1⟩ := optD_inv (β := Nat) (γ := Nat) p
    clear p
    have p := p1
    clear p1
    obtain ⟨y, e2, p1⟩ := optD_inv (β := Nat) (γ := Nat) p
    clear p
    have p := p1
    clear p1
    obtain ⟨pa, us, rfl, hp, rfl, e1, rr⟩ := cellAtL_ok st rx e0
    obtain ⟨w, h1, h2⟩ := rr.get e2
    exact ⟨pa, us, w, rfl, rfl, e1, by rw [rr.length]; exact h1, post_wr st hp ⟨_, e1⟩ rr.dropLast h2 p⟩
  · exact p.elim
def popAtD : D → List D → Sto → Rs D
  | x, [.int i], s => optD (cellAtL x s) fun c => if -(2 ^ 63) ≤ i ∧ i < 2 ^ 63 then optD (seqIndex? i c.2.length) fun k => optD c.2[k]? fun y => .ok y (s.set c.1 (.lst (c.2.eraseIdx k))) else .bad
  | _, _, _ => .bad
theorem Reps.eraseIdx : ∀ {vs : List V} {ds : List D} (k : Nat), Reps g H al vs ds → Reps g H al (vs.eraseIdx k) (ds.eraseIdx k)
  | _, _, _, .nil => .nil
  | _, _, 0, .cons _ r => r
  | _, _, k + 1, .cons h r => .cons h (Reps.eraseIdx k r)
theorem ok_popAt : MtRok g E rPopAt popAtD := by
  intro H al s x v ds vs Q st rx rs p
  unfold popAtD at p
  split at p
  · rename_i i
    obtain ⟨w, rfl, ry⟩ := rs.one
    cases ry.int_inv
    obtain ⟨⟨n, es⟩, e0, p1⟩ := optD_inv (β := Nat) (γ := Nat) p
    clear p
    have p := p1
    clear p1
    obtain ⟨pa, us, rfl, hp, rfl, e1, rr⟩ := cellAtL_ok st rx e0
    by_cases hl : -(2 ^ 63) ≤ i ∧ i < 2 ^ 63
    · simp only [if_pos hl] at p
      obtain ⟨k, e3, p1⟩ := optD_inv (β := Nat) (γ := Nat) p
      clear p
      have p := p1
      clear p1
      obtain ⟨y, e2, p1⟩ := optD_inv (β := Nat) (γ := Nat) p
      clear p
      have p := p1
      clear p1
      obtain ⟨w, h1, h2⟩ := rr.get e2
      exact ⟨pa, us, i, k, w, rfl, rfl, e1, hl.1, hl.2, by rw [rr.length]; exact e3, h1, post_wr st hp ⟨_, e1⟩ (rr.eraseIdx k) h2 p⟩
    · simp only [if_neg hl] at p; exact p.elim
  · exact p.elim
def insertD : D → List D → Sto → Rs D
  | x, [.int i, y], s => optD (cellAtL x s) fun c => if c.2.length < sizeLine ∧ 0 ≤ i ∧ i < 2 ^ 63 then .ok .non (s.set c.1 (.lst (c.2.take i.toNat ++ [y] ++ c.2.drop i.toNat))) else .bad
  | _, _, _ => .bad
def rInsert : V → List V → Hp → VK → Prop := fun x vs H Q => ∃ (l : Addr) (xs : List V) (i : Int) (y : V), x = .ref l ∧ vs = [.int i, y] ∧ H l = some (.lst xs) ∧ xs.length < sizeLine ∧ 0 ≤ i ∧ i < 2 ^ 63 ∧ Q .non (upd H l (.lst (xs.take i.toNat ++ [y] ++ xs.drop i.toNat)))
theorem ok_insert : MtRok g E rInsert insertD := by
  intro H al s x v ds vs Q st rx rs p
  unfold insertD at p
  split at p
  · rename_i i y
    obtain ⟨w, u, rfl, ri, ry⟩ := rs.two
    cases ri.int_inv
    obtain ⟨⟨n, es⟩, e0, p1⟩ := optD_inv (β := Nat) (γ := Nat) p
    clear p
    have p := p1
    clear p1
    obtain ⟨pa, us, rfl, hp, rfl, e1, rr⟩ := cellAtL_ok st rx e0
    by_cases hl : es.length < sizeLine ∧ 0 ≤ i ∧ i < 2 ^ 63
    · simp only [if_pos hl] at p
      exact ⟨pa, us, i, u, rfl, rfl, e1, by rw [rr.length]; exact hl.1, hl.2.1, hl.2.2, post_wr st hp ⟨_, e1⟩ (((rr.take _).append (.cons ry .nil)).append (rr.drop _)) .non p⟩
    · simp only [if_neg hl] at p; exact p.elim
  · exact p.elim
def reverseD : D → List D → Sto → Rs D
  | x, [], s => optD (cellAtL x s) fun c => .ok .non (s.set c.1 (.lst c.2.reverse))
  | _, _, _ => .bad
theorem ok_reverse : MtRok g E rReverse reverseD := by
  intro H al s x v ds vs Q st rx rs p
  unfold reverseD at p
  split at p
  · cases rs
    obtain ⟨⟨n, es⟩, e0, p1⟩ := optD_inv (β := Nat) (γ := Nat) p
    clear p
    have p := p1
    clear p1
    obtain ⟨pa, us, rfl, hp, rfl, e1, rr⟩ := cellAtL_ok st rx e0
    exact ⟨pa, us, rfl, rfl, e1, post_wr st hp ⟨_, e1⟩ rr.reverse .non p⟩
  · exact p.elim
def clearD : D → List D → Sto → Rs D
  | x, [], s => optD (cellAtL x s) fun c => .ok .non (s.set c.1 (.lst []))
  | _, _, _ => .bad
theorem ok_clear : MtRok g E rClear clearD := by
  intro H al s x v ds vs Q st rx rs p
  unfold clearD at p
  split at p
  · cases rs
    obtain ⟨⟨n, es⟩, e0, p1⟩ := optD_inv (β := Nat) (γ := Nat) p
    clear p
    have p := p1
    clear p1
    obtain ⟨pa, us, rfl, hp, rfl, e1, rr⟩ := cellAtL_ok st rx e0
    exact ⟨pa, us, rfl, rfl, e1, post_wr st hp ⟨_, e1⟩ .nil .non p⟩
  · exact p.elim
def strsOf : List D → Option (List Str)
  | [] => some []
  | .str b :: r => (strsOf r).map (b :: ·)
  | _ => none
theorem strsOf_map : ∀ (bs : List Str), strsOf (bs.map D.str) = some bs
  | [] => rfl
  | i :: r => by rw [List.map_cons, strsOf, strsOf_map r]; rfl
theorem strsOf_inv : ∀ {ds : List D} {bs : List Str}, strsOf ds = some bs → ds = bs.map D.str
  | [], _, h => by cases h; rfl
  | .str i :: r, is, h => by
    rw [strsOf] at h
    cases e : strsOf r with
    | none => rw [e] at h; cases h
    | some js => rw [e] at h; cases h; rw [List.map_cons, strsOf_inv e]
  | .non :: _, _, h => by cases h
  | .int _ :: _, _, h => by cases h
  | .bl _ :: _, _, h => by cases h
  | .tup _ :: _, _, h => by cases h
  | .lst _ :: _, _, h => by cases h
  | .obj _ _ :: _, _, h => by cases h
  | .ref _ :: _, _, h => by cases h
  | .frz _ :: _, _, h => by cases h
theorem reps_strs : ∀ {is : List Str} {vs : List V}, Reps g H al vs (is.map D.str) → vs = is.map V.str
  | [], _, h => by cases h; rfl
  | i :: r, _, h => by
    rw [List.map_cons] at h
    cases h with | cons h1 h2 => rw [h1.str_inv, reps_strs h2]; rfl
theorem Reps.strs {is : List Str} : Reps g H al (is.map V.str) (is.map D.str) := by
  induction is with
  | nil => exact .nil
  | cons i r ih => exact .cons (.str i) ih
def joinD : D → List D → Sto → Rs D
  | .str a, [y], s => optD ((itemsOf y s).bind strsOf) fun ys => if (ys.map (·.length)).sum + ys.length * a.length ≤ 16777216 then .ok (.str (Txt.join a ys)) s else .bad
  | _, _, _ => .bad
def rJoin (K : PySem.W.Frag) : V → List V → Hp → VK → Prop := fun x xs H Q => ∃ a p, ∃ ys : List Str, x = .str a ∧ xs = [.ref p] ∧ (SqL K H p (ys.map V.str) ∨ SqT K H p (ys.map V.str)) ∧ (ys.map (·.length)).sum + ys.length * a.length ≤ 16777216 ∧ Q (.str (Txt.join a ys)) H
theorem ok_join (hK : g.K = X.K) : MtRok g E (rJoin X.K) joinD := by
  intro H al s x v ds vs Q st rx rs p
  unfold joinD at p
  split at p
  · rename_i a y
    cases rx.str_inv
    obtain ⟨w, rfl, ry⟩ := rs.one
    obtain ⟨ys, e0, p1⟩ := optD_inv (β := Nat) (γ := Nat) p
    clear p
    have p := p1
    clear p1
    cases e1 : itemsOf y s with
    | none => rw [e1] at e0; cases e0
    | some es =>
      rw [e1] at e0
      obtain ⟨pa, us, rfl, sq, rr⟩ := items_ok st ry e1
      have e2 : es = ys.map D.str := strsOf_inv e0
      subst e2
      rw [reps_strs rr, hK] at sq
      by_cases hl : (ys.map (·.length)).sum + ys.length * a.length ≤ 16777216
      · rw [if_pos hl] at p
        exact ⟨a, pa, ys, rfl, rfl, sq, hl, p _ _ _ .refl st (.str _)⟩
      · rw [if_neg hl] at p; exact p.elim
  · exact p.elim
def startsD : D → List D → Sto → Rs D
  | .str a, [.str b], s => .ok (.bl (Txt.startswith a b)) s
  | _, _, _ => .bad
def endsD : D → List D → Sto → Rs D
  | .str a, [.str b], s => .ok (.bl (Txt.endswith a b)) s
  | _, _, _ => .bad
def sindexD : D → List D → Sto → Rs D
  | .str a, [.str b], s => optD (Builtin.Str.occurrences a b 0 a.length 1).head? fun i => .ok (.int (i : Nat)) s
  | _, _, _ => .bad
theorem ok_starts : MtRok g E (fun x xs H Q => ∃ a b, x = .str a ∧ xs = [.str b] ∧ Q (.bl (Txt.startswith a b)) H) startsD := by
  intro H al s x v ds vs Q st rx rs p
  unfold startsD at p
  split at p
  · cases rx.str_inv
    obtain ⟨w, rfl, ry⟩ := rs.one
    cases ry.str_inv
    exact ⟨_, _, rfl, rfl, p _ _ _ .refl st (.bl _)⟩
  · exact p.elim
theorem ok_ends : MtRok g E (fun x xs H Q => ∃ a b, x = .str a ∧ xs = [.str b] ∧ Q (.bl (Txt.endswith a b)) H) endsD := by
  intro H al s x v ds vs Q st rx rs p
  unfold endsD at p
  split at p
  · cases rx.str_inv
    obtain ⟨w, rfl, ry⟩ := rs.one
    cases ry.str_inv
    exact ⟨_, _, rfl, rfl, p _ _ _ .refl st (.bl _)⟩
  · exact p.elim
theorem ok_sindex : MtRok g E (fun x xs H Q => ∃ a b i rest, x = .str a ∧ xs = [.str b] ∧ Builtin.Str.occurrences a b 0 a.length 1 = i :: rest ∧ Q (.int (i : Nat)) H) sindexD := by
  intro H al s x v ds vs Q st rx rs p
  unfold sindexD at p
  split at p
  · rename_i a b
    cases rx.str_inv
    obtain ⟨w, rfl, ry⟩ := rs.one
    cases ry.str_inv
    obtain ⟨i, e0, p1⟩ := optD_inv (β := Nat) (γ := Nat) p
    clear p
    have p := p1
    clear p1
    cases e1 : Builtin.Str.occurrences a b 0 a.length 1 with
    | nil => rw [e1] at e0; cases e0
    | cons j rest =>
      rw [e1] at e0; cases e0
      exact ⟨a, b, i, rest, rfl, rfl, e1, p _ _ _ .refl st (.int _)⟩
  · exact p.elim
def dgetD : D → List D → Sto → Rs D
  | x, [y], s => optD (dgetO x y s) fun o => .ok (o.getD .non) s
  | x, [y, z], s => optD (dgetO x y s) fun o => .ok (o.getD z) s
  | _, _, _ => .bad
theorem ok_dget : MtRok g E rDGet dgetD := by
  intro H al s x v ds vs Q st rx rs p
  unfold dgetD at p
  split at p
  · rename_i y
    obtain ⟨w, rfl, ry⟩ := rs.one
    obtain ⟨o, e, p1⟩ := optD_inv (β := Nat) (γ := Nat) p
    obtain ⟨a, ov, rfl, gt, hh⟩ := dgetO_ok st rx ry e
    refine .inl ⟨a, w, ov, rfl, rfl, gt, ?_⟩
    rcases hh with ⟨rfl, rfl⟩ | ⟨d, u, rfl, rfl, r⟩
    · exact p1 _ _ _ .refl st .non
    · exact p1 _ _ _ .refl st r
  · rename_i y z
    obtain ⟨w, w2, rfl, ry, rz⟩ := rs.two
    obtain ⟨o, e, p1⟩ := optD_inv (β := Nat) (γ := Nat) p
    obtain ⟨a, ov, rfl, gt, hh⟩ := dgetO_ok st rx ry e
    refine .inr ⟨a, w, w2, ov, rfl, rfl, gt, ?_⟩
    rcases hh with ⟨rfl, rfl⟩ | ⟨d, u, rfl, rfl, r⟩
    · exact p1 _ _ _ .refl st rz
    · exact p1 _ _ _ .refl st r
  · exact p.elim
/-- the cell of a dict with int and text keys -/
def dkO (x : D) (s : Sto) : Option (Nat × List (Key × D)) := match x with
  | .ref n => match s[n]? with
    | some (.dK kvs) => some (n, kvs)
    | _ => none
  | _ => none
theorem dkO_ok {x : D} {v : V} {n : Nat} {kvs : List (Key × D)} (st : StOk g H al s) (r : Rep g H al v x) (h : dkO x s = some (n, kvs)) : ∃ p kv, x = .ref n ∧ al[n]? = some p ∧ v = .ref p ∧ H p = some (.dK kv) ∧ DRep g H al kv kvs := by
  cases x <;> first | (cases h; done) | skip
  rename_i m
  cases r with
  | ref hp =>
    rename_i p
    unfold dkO at h
    cases e : s[m]? with
    | none => simp only [e] at h; cases h
    | some c =>
      simp only [e] at h
      have cell := st.cell m _ _ hp e
      cases c with
      | dK kvs0 =>
        cases h
        obtain ⟨kv, e1, e2, r2⟩ := cell
        exact ⟨p, kv, rfl, hp, rfl, e1, e2, r2⟩
      | _ => cases h
theorem post_dk {n : Nat} {p : Addr} {kv kv' : List (Key × V)} {kvs' : List (Key × D)} {d : D} {v : V} {Q : VK} (st : StOk g H al s) (hp : al[n]? = some p) (e1 : H p = some (.dK kv)) (dr : DRep g H al kv' kvs') (rv : Rep g H al v d) (h : Post g E (Rep g) (.ok d (s.set n (.dK kvs'))) H al Q) : Q v (upd H p (.dK kv')) := by
  have t : Tr g al H al (upd H p (.dK kv')) := .write hp e1 (fun _ _ z => nomatch z)
  have dr' := dr.tr t
  exact h _ _ _ t (st.write hp ⟨kv', upd_same, dr'.1, dr'.2⟩) (rv.tr t)
def dsetdD : D → List D → Sto → Rs D
  | x, [y, z], s => optD (dkO x s) fun c => optD (keyK y) fun k => if c.2.length < sizeLine then match vAt c.2 k with
      | some d => .ok d s
      | none => .ok z (s.set c.1 (.dK (vPut c.2 k z)))
    else .bad
  | _, _, _ => .bad
theorem ok_dsetd : MtRok g E rDSetd dsetdD := by
  intro H al s x v ds vs Q st rx rs p
  unfold dsetdD at p
  split at p
  · rename_i y z
    obtain ⟨w, w2, rfl, ry, rz⟩ := rs.two
    obtain ⟨⟨n, kvs⟩, e, p1⟩ := optD_inv (β := Nat) (γ := Nat) p
    obtain ⟨k, ek, p2⟩ := optD_inv (β := Nat) (γ := Nat) p1
    dsimp only at p2
    obtain ⟨pa, kv, rfl, hp, rfl, e1, dr⟩ := dkO_ok st rx e
    have hk := keyK_ok ry ek
    subst hk
    by_cases hl : kvs.length < sizeLine
    · simp only [if_pos hl] at p2
      refine ⟨pa, k, w2, kv, rfl, rfl, e1, by rw [dr.length]; exact hl, fun u hu => ?_, fun hn => ?_⟩
      · rcases dr.at (k := k) with ⟨a, b⟩ | ⟨d, u', a, b, c⟩
        · rw [b] at hu; cases hu
        · rw [b] at hu; cases hu
          simp only [a] at p2
          exact p2 _ _ _ .refl st c
      · rcases dr.at (k := k) with ⟨a, b⟩ | ⟨d, u', a, b, c⟩
        · simp only [a] at p2
          exact post_dk st hp e1 (dr.put rz) rz p2
        · rw [b] at hn; cases hn
    · simp only [if_neg hl] at p2; exact p2.elim
  · exact p.elim
def dpopD : D → List D → Sto → Rs D
  | x, [y], s => optD (dkO x s) fun c => optD (keyK y) fun k => match vAt c.2 k with
      | some d => .ok d (s.set c.1 (.dK (vDrop c.2 k)))
      | none => .bad
  | x, [y, z], s => optD (dkO x s) fun c => optD (keyK y) fun k => match vAt c.2 k with
      | some d => .ok d (s.set c.1 (.dK (vDrop c.2 k)))
      | none => .ok z s
  | _, _, _ => .bad
theorem ok_dpop : MtRok g E rDPop dpopD := by
  intro H al s x v ds vs Q st rx rs p
  unfold dpopD at p
  split at p
  · rename_i y
    obtain ⟨w, rfl, ry⟩ := rs.one
    obtain ⟨⟨n, kvs⟩, e, p1⟩ := optD_inv (β := Nat) (γ := Nat) p
    obtain ⟨k, ek, p2⟩ := optD_inv (β := Nat) (γ := Nat) p1
    dsimp only at p2
    obtain ⟨pa, kv, rfl, hp, rfl, e1, dr⟩ := dkO_ok st rx e
    have hk := keyK_ok ry ek
    subst hk
    rcases dr.at (k := k) with ⟨a, b⟩ | ⟨d, u', a, b, c⟩
    · simp only [a] at p2; exact p2.elim
    · simp only [a] at p2
      exact .inl ⟨pa, k, kv, u', rfl, rfl, e1, b, post_dk st hp e1 dr.drop c p2⟩
  · rename_i y z
    obtain ⟨w, w2, rfl, ry, rz⟩ := rs.two
    obtain ⟨⟨n, kvs⟩, e, p1⟩ := optD_inv (β := Nat) (γ := Nat) p
    obtain ⟨k, ek, p2⟩ := optD_inv (β := Nat) (γ := Nat) p1
    dsimp only at p2
    obtain ⟨pa, kv, rfl, hp, rfl, e1, dr⟩ := dkO_ok st rx e
    have hk := keyK_ok ry ek
    subst hk
    refine .inr ⟨pa, k, w2, kv, rfl, rfl, e1, fun u hu => ?_, fun hn => ?_⟩
    · rcases dr.at (k := k) with ⟨a, b⟩ | ⟨d, u', a, b, c⟩
      · rw [b] at hu; cases hu
      · rw [b] at hu; cases hu
        simp only [a] at p2
        exact post_dk st hp e1 dr.drop c p2
    · rcases dr.at (k := k) with ⟨a, b⟩ | ⟨d, u', a, b, c⟩
      · simp only [a] at p2
        exact p2 _ _ _ .refl st rz
      · rw [b] at hn; cases hn
  · exact p.elim
def dupdD : D → List D → Sto → Rs D
  | x, [y], s => optD (dkO x s) fun c => optD (dkO y s) fun e => if c.1 ≠ e.1 ∧ c.2.length + e.2.length ≤ sizeLine then .ok .non (s.set c.1 (.dK (mergeD c.2 e.2))) else .bad
  | _, _, _ => .bad
theorem ok_dupd : MtRok g E rDUpd dupdD := by
  intro H al s x v ds vs Q st rx rs p
  unfold dupdD at p
  split at p
  · rename_i y
    obtain ⟨w, rfl, ry⟩ := rs.one
    obtain ⟨⟨n, kvs⟩, e, p1⟩ := optD_inv (β := Nat) (γ := Nat) p
    obtain ⟨⟨m, more⟩, e', p2⟩ := optD_inv (β := Nat) (γ := Nat) p1
    obtain ⟨pa, kv, rfl, hp, rfl, e1, dr⟩ := dkO_ok st rx e
    dsimp only at p2
    obtain ⟨pb, mv, rfl, hp2, rfl, e2, dr2⟩ := dkO_ok st ry e'
    by_cases hl : n ≠ m ∧ kvs.length + more.length ≤ sizeLine
    · simp only [if_pos hl] at p2
      refine ⟨pa, pb, kv, mv, rfl, rfl, fun z => hl.1 ?_, e1, e2, by rw [dr.length, dr2.length]; exact hl.2, post_dk st hp e1 (dr2.merge dr) .non p2⟩
      subst z
      obtain ⟨h1, x1⟩ := List.getElem?_eq_some_iff.mp hp
      obtain ⟨h2, x2⟩ := List.getElem?_eq_some_iff.mp hp2
      exact (List.getElem_inj st.nd).mp (x1.trans x2.symm)
    · simp only [if_neg hl] at p2; exact p2.elim
  · exact p.elim
inductive BM where
  | append | extend | pop | popAt | insert | reverse | clear | join | starts | ends | sindex | dget | dsetd | dpop | dupd
def BM.nm : BM → Str
  | .append => "append" | .extend => "extend" | .pop => "pop" | .popAt => "pop" | .insert => "insert" | .reverse => "reverse" | .clear => "clear" | .join => "join" | .starts => "startswith" | .ends => "endswith" | .sindex => "index" | .dget => "get" | .dsetd => "setdefault" | .dpop => "pop" | .dupd => "update"
def BM.ty : BM → BT
  | .append => .list | .extend => .list | .pop => .list | .popAt => .list | .insert => .list | .reverse => .list | .clear => .list | .join => .str | .starts => .str | .ends => .str | .sindex => .str | .dget => .dict | .dsetd => .dict | .dpop => .dict | .dupd => .dict
def BM.sem : BM → D → List D → Sto → Rs D
  | .append => appendD | .extend => extendD | .pop => pop0D | .popAt => popAtD | .insert => insertD | .reverse => reverseD | .clear => clearD | .join => joinD | .starts => startsD | .ends => endsD | .sindex => sindexD | .dget => dgetD | .dsetd => dsetdD | .dpop => dpopD | .dupd => dupdD
def BM.args : BM → Bool
  | .pop => false | .reverse => false | .clear => false | _ => true
section
variable {o e : Expr} {es : List Expr} {name : Str} {apos cpos : Pos} {mo : MD D} {ms : MD (List D)}
theorem me_bmA (hu : X.A.units + 64 < cLine) (b : BM) (hb0 : b.args = true) (hn : name = b.nm) (hK : g.K = X.K) (ho : PE X o (TX g E mo)) (hb : baseOk o = true) (ha : PA X (e :: es) (TXs g E ms)) (hp : (e :: es).all plainE = true) (h28 : (e :: es).length < 29) (hline : (apos.endLine == cpos.line) = true) :
    PE X (.Call (.Attribute o name apos) (e :: es) [] cpos) (TX g E (mBM b.ty b.sem mo ms)) := by
  subst hn
  cases b <;> first | (cases hb0; done) | skip
  · exact me_bm (T := .list) hK PySem.F.plainAttrs_list PySem.F.slot_list_append PySem.F.type_list_append mt_append ok_append ho hb ha hp h28 hline
  · exact me_bm (T := .list) hK PySem.F.plainAttrs_list PySem.F.slot_list_extend PySem.F.type_list_extend mt_extend ok_extend ho hb ha hp h28 hline
  · exact me_bm (T := .list) hK PySem.F.plainAttrs_list PySem.F.slot_list_pop PySem.F.type_list_pop mt_popAt ok_popAt ho hb ha hp h28 hline
  · exact me_bm (T := .list) hK PySem.F.plainAttrs_list PySem.F.slot_list_insert PySem.F.type_list_insert mt_insert ok_insert ho hb ha hp h28 hline
  · exact me_bm (T := .str) hK PySem.F.plainAttrs_str PySem.F.slot_str_join PySem.F.type_str_join mt_join (ok_join hK) ho hb ha hp h28 hline
  · exact me_bm (T := .str) hK PySem.F.plainAttrs_str PySem.F.slot_str_startswith PySem.F.type_str_startswith mt_startswith ok_starts ho hb ha hp h28 hline
  · exact me_bm (T := .str) hK PySem.F.plainAttrs_str PySem.F.slot_str_endswith PySem.F.type_str_endswith mt_endswith ok_ends ho hb ha hp h28 hline
  · exact me_bm (T := .str) hK PySem.F.plainAttrs_str PySem.F.slot_str_index PySem.F.type_str_index mt_sindex ok_sindex ho hb ha hp h28 hline
  · exact me_bm (T := .dict) hK PySem.F.plainAttrs_dict PySem.F.slot_dict_get PySem.F.type_dict_get (mt_dget hu) ok_dget ho hb ha hp h28 hline
  · exact me_bm (T := .dict) hK PySem.F.plainAttrs_dict PySem.F.slot_dict_setdefault PySem.F.type_dict_setdefault mt_dsetd ok_dsetd ho hb ha hp h28 hline
  · exact me_bm (T := .dict) hK PySem.F.plainAttrs_dict PySem.F.slot_dict_pop PySem.F.type_dict_pop mt_dpop ok_dpop ho hb ha hp h28 hline
  · exact me_bm (T := .dict) hK PySem.F.plainAttrs_dict PySem.F.slot_dict_update PySem.F.type_dict_update mt_dupd ok_dupd ho hb ha hp h28 hline
theorem me_bmN (b : BM) (hb0 : b.args = false) (hn : name = b.nm) (hK : g.K = X.K) (ho : PE X o (TX g E mo)) (hb : baseOk o = true) (hline : (apos.endLine == cpos.line) = true) :
    PE X (.Call (.Attribute o name apos) [] [] cpos) (TX g E (mBM b.ty b.sem mo mNil)) := by
  subst hn
  cases b <;> first | (cases hb0; done) | skip
  · exact me_bm0 (T := .list) hK PySem.F.plainAttrs_list PySem.F.slot_list_pop PySem.F.type_list_pop mt_pop ok_pop0 ho hb hline
  · exact me_bm0 (T := .list) hK PySem.F.plainAttrs_list PySem.F.slot_list_reverse PySem.F.type_list_reverse mt_reverse ok_reverse ho hb hline
  · exact me_bm0 (T := .list) hK PySem.F.plainAttrs_list PySem.F.slot_list_clear PySem.F.type_list_clear mt_clear ok_clear ho hb hline
end
end Mx
namespace Mx
open PySem L2 RZ RT
variable {g : G} {E : XK} {X : Cx} {H : Hp} {al : List Addr} {s : Sto} {σ : St} {ρ : Ro}
structure Src where
  items : List D
  guard : Sto → Bool
/-- the iterator J gives the items, as long as the guard holds (whatever else is left aside meanwhile) -/
def Good (g : G) (H0 : Hp) (al0 : List Addr) (J : It) (src : Src) : Prop :=
  ∀ F H al s, (∀ v d, Rep g H0 al0 v d → Rep (g.wF F) H al v d) → (∀ a o u, H0 a = some (.frz o u) → H a = some (.frz o u)) → StOk (g.wF F) H al s → src.guard s → (∀ i, i < src.items.length → J.go i H) ∧ J.stop src.items.length H ∧
    ∀ i x H', i < src.items.length → J.yld i H x H' → Tr (g.wF F) al H al H' ∧ StOk (g.wF F) H' al s ∧ ∃ d, src.items[i]? = some d ∧ Rep (g.wF F) H' al x d
abbrev TIx (g : G) (E : XK) (m : MD Src) : TI := TG g E (Good g) m
section
variable {tg iter : Expr}
theorem pi_mono {w w' : TI} (h : PI X tg iter w) (k : ∀ σ H R, w' σ H R → w σ H R) : PI X tg iter w' := ⟨fun pins s σ H R I q => h.run pins s σ H R I (k _ _ _ q)⟩
theorem pi_or {w w' : TI} (h : PI X tg iter w) (h' : PI X tg iter w') : PI X tg iter (fun σ H R => w σ H R ∨ w' σ H R) := ⟨fun pins s σ H R I q => q.elim (h.run pins s σ H R I) (h'.run pins s σ H R I)⟩
end
def optS {α γ : Type} (o : Option α) (k : α → Rs γ) : Rs γ := match o with
  | some x => k x
  | none => .bad
@[simp] theorem optS_some {α γ : Type} {x : α} {k : α → Rs γ} : optS (some x) k = k x := rfl
@[simp] theorem optS_none {α γ : Type} {k : α → Rs γ} : optS none k = .bad := rfl
theorem optS_inv {α β γ : Type} {rel : Hp → List Addr → β → γ → Prop} {o : Option α} {k : α → Rs γ} {Q : β → Hp → Prop} (p : Post g E rel (optS o k) H al Q) : ∃ x, o = some x ∧ Post g E rel (k x) H al Q := by
  cases o with
  | none => exact p.elim
  | some x => exact ⟨x, rfl, p⟩
/-- the items of a list, a tuple, a text -/
def srcOf : D → Sto → Option Src
  | .tup ds, _ => some ⟨ds, fun _ => true⟩
  | .str z, _ => some ⟨z.cps.toList.map fun c => .str ⟨#[c]⟩, fun _ => true⟩
  | x, s => (asL x s).map fun ds => ⟨ds, fun s => deqO (asL x s) ds⟩
def mSrc (m : MD D) : MD Src := fun ρ s => (m ρ s).bind fun x s => optS (srcOf x s) fun c => .ok c s
theorem good_list {x : D} {p : Addr} {ds : List D} (hK : g.K = X.K) (r : Rep g H al (.ref p) x) : Good g H al (Itl X.K p) ⟨ds, fun s => deqO (asL x s) ds⟩ := by
  intro F H1 al1 s1 t tz st gd
  obtain ⟨q, vs, e, sq, rs⟩ := asL_ok st (t _ _ r) (deqO_ok gd)
  cases e
  rw [hK] at sq
  have W := walk_list (K := X.K) (a := p) (xs := vs)
  refine ⟨fun i hi => W.goes i H1 (by rw [rs.length]; exact hi) sq, by show (Itl X.K p).stop ds.length H1; rw [← rs.length]; exact W.stops H1 sq, fun i y H' hi hy => ?_⟩
  obtain ⟨e1, e2⟩ := W.yields i H1 y H' (by rw [rs.length]; exact hi) sq hy
  subst e1
  obtain ⟨d, h1, h2⟩ := rs.getV e2
  exact ⟨.refl, st, d, h1, h2⟩
theorem good_tup {p : Addr} {ds : List D} (hK : g.K = X.K) (r : Rep g H al (.ref p) (.tup ds)) : Good g H al (Itt X.K p) ⟨ds, fun _ => true⟩ := by
  intro F H1 al1 s1 t tz st gd
  obtain ⟨q, vs, e, sq, rs⟩ := tup_ok (t _ _ r)
  cases e
  rw [hK] at sq
  have W := walk_tup (K := X.K) (a := p) (xs := vs)
  refine ⟨fun i hi => W.goes i H1 (by rw [rs.length]; exact hi) sq, by show (Itt X.K p).stop ds.length H1; rw [← rs.length]; exact W.stops H1 sq, fun i y H' hi hy => ?_⟩
  obtain ⟨e1, e2⟩ := W.yields i H1 y H' (by rw [rs.length]; exact hi) sq hy
  subst e1
  obtain ⟨d, h1, h2⟩ := rs.getV e2
  exact ⟨.refl, st, d, h1, h2⟩
theorem good_str {z : Str} : Good g H al (Its z) ⟨z.cps.toList.map fun c => .str ⟨#[c]⟩, fun _ => true⟩ := by
  intro F H1 al1 s1 t tz st gd
  have W := walk_str (z := z)
  have hl : (z.cps.toList.map fun c => D.str ⟨#[c]⟩).length = z.cps.size := by simp
  refine ⟨fun i hi => W.goes i H1 (by rw [← hl]; exact hi) trivial, by show (Its z).stop (z.cps.toList.map fun c => D.str ⟨#[c]⟩).length H1; rw [hl]; exact W.stops H1 trivial, fun i y H' hi hy => ?_⟩
  obtain ⟨e1, c, e2, e3⟩ := W.yields i H1 y H' (by rw [← hl]; exact hi) trivial hy
  subst e1; subst e3
  exact ⟨.refl, st, .str ⟨#[c]⟩, by simp [e2], .str _⟩
theorem mi_expr {tg e : Expr} {m : MD D} (hK : g.K = X.K) (he : PE X e (TX g E m)) : PI X tg e (TIx g E (mSrc m)) :=
  pi_mono (pi_or (pi_list he) (pi_or (pi_tup he) (pi_str he))) fun σ H R ⟨ρ, al, s, er, st, p⟩ => by
    have key : ∀ d s1, m ρ s = .ok d s1 → ∀ v H1 al1, Tr g al H al1 H1 → StOk g H1 al1 s1 → Rep g H1 al1 v d → Post g E (Good g) (optS (srcOf d s1) fun c => .ok c s1) H1 al1 R → True := fun _ _ _ _ _ _ _ _ _ _ => trivial
    unfold mSrc at p
    cases hm : m ρ s with
    | bad => rw [hm] at p; exact p.elim
    | exc c ds s1 =>
      rw [hm] at p
      exact .inl ⟨ρ, al, s, er, st, by rw [hm]; exact p⟩
    | ok d s1 =>
      rw [hm] at p
      by_cases ht : ∃ ds, d = .tup ds
      · obtain ⟨ds, rfl⟩ := ht
        refine .inr (.inl ⟨ρ, al, s, er, st, ?_⟩)
        rw [hm]
        intro v H' al' t st' rp
        obtain ⟨pa, vs, rfl, sq, rs⟩ := tup_ok rp
        have gd := good_tup hK rp
        rw [hK] at sq
        exact ⟨pa, rfl, ⟨vs, sq⟩, p _ H' al' t st' gd⟩
      · by_cases hz : ∃ z, d = .str z
        · obtain ⟨z, rfl⟩ := hz
          refine .inr (.inr ⟨ρ, al, s, er, st, ?_⟩)
          rw [hm]
          intro v H' al' t st' rp
          cases rp.str_inv
          exact ⟨z, rfl, p _ H' al' t st' good_str⟩
        · have e1 : srcOf d s1 = (asL d s1).map fun ds => ⟨ds, fun s => deqO (asL d s) ds⟩ := by
            cases d <;> first | rfl | exact absurd ⟨_, rfl⟩ ht | exact absurd ⟨_, rfl⟩ hz
          refine .inl ⟨ρ, al, s, er, st, ?_⟩
          rw [hm]
          intro v H' al' t st' rp
          have p' : Post g E (Good g) (optS (srcOf d s1) fun c => .ok c s1) H al R := p
          rw [e1] at p'
          cases ha : asL d s1 with
          | none => rw [ha] at p'; exact p'.elim
          | some ds =>
            rw [ha] at p'
            obtain ⟨pa, vs, rfl, sq, rs⟩ := asL_ok st' rp ha
            rw [hK] at sq
            exact ⟨pa, rfl, ⟨vs, sq⟩, p' _ H' al' t st' (good_list hK rp)⟩
def rngS (lo : Int) (c : Int) (n : Nat) : Src := ⟨(List.range n).map fun (i : Nat) => .int (lo + (i : Int) * c), fun _ => true⟩
theorem good_range {lo c : Int} {n : Nat} : Good g H al (Itc lo c n) (rngS lo c n) := by
  intro F H1 al1 s1 t tz st gd
  have hl : (rngS lo c n).items.length = n := by simp [rngS]
  refine ⟨fun i hi => (show i < n by rw [← hl]; exact hi), by show n ≤ (rngS lo c n).items.length; rw [hl]; exact Nat.le_refl _, fun i y H' hi hy => ?_⟩
  obtain ⟨e1, e2⟩ := hy
  subst e1; subst e2
  rw [hl] at hi
  exact ⟨.refl, st, _, by simp [rngS, hi], .int _⟩
theorem good_range1 {lo : Int} {n : Nat} : Good g H al (Itr lo n) (rngS lo 1 n) := by
  intro F H1 al1 s1 t tz st gd
  have hl : (rngS lo 1 n).items.length = n := by simp [rngS]
  refine ⟨fun i hi => (show i < n by rw [← hl]; exact hi), by show n ≤ (rngS lo 1 n).items.length; rw [hl]; exact Nat.le_refl _, fun i y H' hi hy => ?_⟩
  obtain ⟨e1, e2⟩ := hy
  subst e1; subst e2
  rw [hl] at hi
  refine ⟨.refl, st, .int (lo + (i : Int) * 1), by simp [rngS, hi], ?_⟩
  rw [Int.mul_one]
  exact .int _
@[reducible] def RgIn (i : Int) : Prop := -(2 ^ 62) ≤ i ∧ i < 2 ^ 62
def rngD : List D → Sto → Rs Src
  | [.int j], s => if j.natAbs ≤ 1000000000 then .ok (rngS 0 1 j.toNat) s else .bad
  | [.int i, .int j], s => if i.natAbs ≤ 1000000000 ∧ j.natAbs ≤ 1000000000 then .ok (rngS i 1 (j - i).toNat) s else .bad
  | [.int i, .int j, .int c], s => if 0 ≤ i ∧ i.natAbs ≤ 1000000000 ∧ 0 ≤ j ∧ j.natAbs ≤ 1000000000 ∧ 0 < c ∧ c.natAbs ≤ 1000000000 then .ok (rngS i c ((j - i + c - 1) / c).toNat) s else .bad
  | _, _ => .bad
def mRng (ms : MD (List D)) : MD Src := fun ρ s => (ms ρ s).bind rngD
theorem rgC_up {i j c : Int} (h : 0 ≤ i ∧ i < 2 ^ 30 ∧ 0 ≤ j ∧ j < 2 ^ 30 ∧ 0 < c ∧ c < 2 ^ 30) : RgC i j c ((j - i + c - 1) / c).toNat := by
  obtain ⟨h1, h2, h3, h4, h5, h6⟩ := h
  have e : Builtin.Range.rangeSize i j c = (((j - i + c - 1) / c).toNat : Int) := by
    unfold Builtin.Range.rangeSize
    rw [if_pos (show c > 0 from h5)]
    by_cases q : i < j
    · rw [if_pos q]
      have e2 : (j - i + c - 1) = (j - i - 1) + 1 * c := by omega
      rw [e2, Int.add_mul_ediv_right _ _ (by omega)]
      have : 0 ≤ (j - i - 1) / c := Int.ediv_nonneg (by omega) (by omega)
      omega
    · rw [if_neg q]
      have : (j - i + c - 1) / c ≤ 0 := by
        have h7 : (j - i + c - 1) / c < 1 := Int.ediv_lt_of_lt_mul h5 (by omega)
        omega
      omega
  have hk : (((j - i + c - 1) / c).toNat : Int) ≤ 2 ^ 31 := by
    by_cases q : i < j
    · have : (j - i + c - 1) / c ≤ j - i + c - 1 := Int.ediv_le_self _ (by omega)
      omega
    · have h7 : (j - i + c - 1) / c < 1 := Int.ediv_lt_of_lt_mul h5 (by omega)
      omega
  refine ⟨by omega, by omega, ?_, e⟩
  unfold Builtin.Range.small
  rw [e]
  have h0 : (0 : Int) ≤ (((j - i + c - 1) / c).toNat : Int) := Int.natCast_nonneg _
  generalize (((j - i + c - 1) / c).toNat : Int) = k at *
  simp only [Builtin.Range.rangeFitsLong, Bool.and_eq_true, Bool.or_eq_true, decide_eq_true_eq, beq_iff_eq, if_pos (show c > 0 from h5)]
  omega
section
variable {tg : Expr} {p pos : Pos} {ms : MD (List D)}
theorem rng_inv {ds : List D} {R : It → Hp → Prop} (q : Post g E (Good g) (rngD ds s) H al R) :
    (∃ j, ds = [.int j] ∧ RgIn j ∧ Post g E (Good g) (.ok (rngS 0 1 j.toNat) s) H al R) ∨ (∃ i j, ds = [.int i, .int j] ∧ RgIn i ∧ RgIn j ∧ Post g E (Good g) (.ok (rngS i 1 (j - i).toNat) s) H al R) ∨
    (∃ i j c, ds = [.int i, .int j, .int c] ∧ (0 ≤ i ∧ i < 2 ^ 30 ∧ 0 ≤ j ∧ j < 2 ^ 30 ∧ 0 < c ∧ c < 2 ^ 30) ∧ Post g E (Good g) (.ok (rngS i c ((j - i + c - 1) / c).toNat) s) H al R) := by
  unfold rngD at q
  split at q
  · rename_i j
    by_cases h : j.natAbs ≤ 1000000000
    · rw [if_pos h] at q; exact .inl ⟨j, rfl, ⟨by omega, by omega⟩, q⟩
    · rw [if_neg h] at q; exact q.elim
  · rename_i i j
    by_cases h : i.natAbs ≤ 1000000000 ∧ j.natAbs ≤ 1000000000
    · rw [if_pos h] at q; exact .inr (.inl ⟨i, j, rfl, ⟨by omega, by omega⟩, ⟨by omega, by omega⟩, q⟩)
    · rw [if_neg h] at q; exact q.elim
  · rename_i i j c
    by_cases h : 0 ≤ i ∧ i.natAbs ≤ 1000000000 ∧ 0 ≤ j ∧ j.natAbs ≤ 1000000000 ∧ 0 < c ∧ c.natAbs ≤ 1000000000
    · rw [if_pos h] at q; exact .inr (.inr ⟨i, j, c, rfl, ⟨h.1, by omega, h.2.2.1, by omega, h.2.2.2.2.1, by omega⟩, q⟩)
    · rw [if_neg h] at q; exact q.elim
  · exact q.elim
theorem mi_rng1 {a : Expr} (hg : Gl X "range") (hm : X.mg "range" = none) (ha : PA X [a] (TXs g E ms)) (hl : Len 1 ms) (hp : [a].all plainE = true) : PI X tg (.Call (.Name "range" p) [a] [] pos) (TIx g E (mRng ms)) := by
  rw [List.all_cons, Bool.and_eq_true] at hp
  refine pi_mono (pi_range1 hg hm ha (star_cons hp.1)) fun σ H R ⟨ρ, al, s, er, st, q⟩ => ⟨ρ, al, s, er, st, Post.bind q fun ds s1 vs H1 al1 hd t st1 rs q1 => ?_⟩
  rcases rng_inv q1 with ⟨j, rfl, h, q2⟩ | ⟨i, j, rfl, _⟩ | ⟨i, j, c, rfl, _⟩
  · obtain ⟨v, rfl, r⟩ := rs.one
    cases r.int_inv
    exact ⟨j, rfl, h.1, h.2, q2 _ _ _ .refl st1 good_range1⟩
  · exact absurd (hl _ _ _ _ hd) (by simp)
  · exact absurd (hl _ _ _ _ hd) (by simp)
theorem mi_rng2 {a b : Expr} (hg : Gl X "range") (hm : X.mg "range" = none) (ha : PA X [a, b] (TXs g E ms)) (hl : Len 2 ms) (hp : [a, b].all plainE = true) : PI X tg (.Call (.Name "range" p) [a, b] [] pos) (TIx g E (mRng ms)) := by
  rw [List.all_cons, Bool.and_eq_true, List.all_cons, Bool.and_eq_true] at hp
  refine pi_mono (pi_range2 hg hm ha (by rw [star_cons hp.1, star_cons hp.2.1]; rfl) (star_cons hp.2.1)) fun σ H R ⟨ρ, al, s, er, st, q⟩ => ⟨ρ, al, s, er, st, Post.bind q fun ds s1 vs H1 al1 hd t st1 rs q1 => ?_⟩
  rcases rng_inv q1 with ⟨j, rfl, _⟩ | ⟨i, j, rfl, h1, h2, q2⟩ | ⟨i, j, c, rfl, _⟩
  · exact absurd (hl _ _ _ _ hd) (by simp)
  · obtain ⟨v, w, rfl, r1, r2⟩ := rs.two
    cases r1.int_inv; cases r2.int_inv
    exact ⟨i, j, rfl, ⟨h1.1, h1.2, h2.1, h2.2⟩, q2 _ _ _ .refl st1 good_range1⟩
  · exact absurd (hl _ _ _ _ hd) (by simp)
theorem Reps.three {vs : List V} {d e f : D} (h : Reps g H al vs [d, e, f]) : ∃ v w u, vs = [v, w, u] ∧ Rep g H al v d ∧ Rep g H al w e ∧ Rep g H al u f := by
  cases h with | cons h1 h2 => obtain ⟨v, w, rfl, h3, h4⟩ := h2.two; exact ⟨_, _, _, rfl, h1, h3, h4⟩
theorem mi_rng3 {a b c : Expr} (hg : Gl X "range") (hm : X.mg "range" = none) (ha : PA X [a, b, c] (TXs g E ms)) (hl : Len 3 ms) (hp : [a, b, c].all plainE = true) : PI X tg (.Call (.Name "range" p) [a, b, c] [] pos) (TIx g E (mRng ms)) := by
  rw [List.all_cons, Bool.and_eq_true] at hp
  refine pi_mono (pi_range3 hg hm ha (star_cons hp.1) (star_any hp.2)) fun σ H R ⟨ρ, al, s, er, st, q⟩ => ⟨ρ, al, s, er, st, Post.bind q fun ds s1 vs H1 al1 hd t st1 rs q1 => ?_⟩
  rcases rng_inv q1 with ⟨j, rfl, _⟩ | ⟨i, j, rfl, h1, h2, q2⟩ | ⟨i, j, k, rfl, h, q2⟩
  · exact absurd (hl _ _ _ _ hd) (by simp)
  · exact absurd (hl _ _ _ _ hd) (by simp)
  · obtain ⟨v, w, u, rfl, r1, r2, r3⟩ := rs.three
    cases r1.int_inv; cases r2.int_inv; cases r3.int_inv
    exact ⟨i, j, k, _, rfl, rgC_up h, q2 _ _ _ .refl st1 good_range⟩
def revD : D → Sto → Option Src
  | .tup ds, _ => some ⟨ds.reverse, fun _ => true⟩
  | x, s => (asL x s).map fun ds => ⟨ds.reverse, fun s => deqO (asL x s) ds⟩
def mRev (m : MD D) : MD Src := fun ρ s => (m ρ s).bind fun x s => optS (revD x s) fun c => .ok c s
theorem rev_ix {vs : List V} {ds : List D} (rs : Reps g H al vs ds) {i : Nat} {x : V} (h : vs[vs.length - 1 - i]? = some x) (hi : i < ds.length) : ∃ d, ds.reverse[i]? = some d ∧ Rep g H al x d := by
  rw [rs.length] at h
  obtain ⟨d, h1, h2⟩ := rs.getV h
  exact ⟨d, by rw [List.getElem?_reverse hi]; exact h1, h2⟩
theorem good_rev {x : D} {p : Addr} {vs : List V} {ds : List D} (hK : g.K = X.K) (hl : vs.length = ds.length) (r : Rep g H al (.ref p) x) : Good g H al (Itv X.K p vs.length) ⟨ds.reverse, fun s => deqO (asL x s) ds⟩ := by
  intro F H1 al1 s1 t tz st gd
  obtain ⟨q, ws, e, sq, rs⟩ := asL_ok st (t _ _ r) (deqO_ok gd)
  cases e
  rw [hK] at sq
  have hlw : vs.length = ws.length := hl.trans rs.length.symm
  rw [hlw]
  have W := walk_rev (K := X.K) (a := p) (xs := ws)
  have hr : ds.reverse.length = ws.length := by rw [List.length_reverse, rs.length]
  refine ⟨fun i hi => W.goes i H1 (by rw [← hr]; exact hi) sq, by show (Itv X.K p ws.length).stop ds.reverse.length H1; rw [hr]; exact W.stops H1 sq, fun i y H' hi hy => ?_⟩
  have hi' : i < ws.length := by rw [← hr]; exact hi
  obtain ⟨e1, e2⟩ := W.yields i H1 y H' hi' sq hy
  subst e1
  obtain ⟨d, h1, h2⟩ := rev_ix rs e2 (by rw [← rs.length]; exact hi')
  exact ⟨.refl, st, d, h1, h2⟩
theorem good_revT {p : Addr} {vs : List V} {ds : List D} (hK : g.K = X.K) (hl : vs.length = ds.length) (r : Rep g H al (.ref p) (.tup ds)) : Good g H al (ItvT X.K p vs.length) ⟨ds.reverse, fun _ => true⟩ := by
  intro F H1 al1 s1 t tz st gd
  obtain ⟨q, ws, e, sq, rs⟩ := tup_ok (t _ _ r)
  cases e
  rw [hK] at sq
  have hlw : vs.length = ws.length := hl.trans rs.length.symm
  rw [hlw]
  have hr : ds.reverse.length = ws.length := by rw [List.length_reverse, rs.length]
  refine ⟨fun i hi => ?_, by show ws.length ≤ ds.reverse.length; rw [hr]; exact Nat.le_refl _, fun i y H' hi hy => ?_⟩
  · have hi' : i < ws.length := by rw [← hr]; exact hi
    exact ⟨hi', ws, ws[ws.length - 1 - i]'(by omega), sq, by simp [show ws.length - 1 - i < ws.length by omega]⟩
  · have hi' : i < ws.length := by rw [← hr]; exact hi
    obtain ⟨e1, e2⟩ := hy
    subst e1
    obtain ⟨d, h1, h2⟩ := rev_ix rs (e2 ws sq) (by rw [← rs.length]; exact hi')
    exact ⟨.refl, st, d, h1, h2⟩
theorem mi_rev {a : Expr} {m : MD D} (hK : g.K = X.K) (hg : Gl X "reversed") (hm : X.mg "reversed" = none) (ha : PE X a (TX g E m)) (hp : plainE a = true) : PI X tg (.Call (.Name "reversed" p) [a] [] pos) (TIx g E (mRev m)) :=
  pi_mono (pi_revA hg hm ha (star_cons hp)) fun σ H R ⟨ρ, al, s, er, st, q⟩ => ⟨ρ, al, s, er, st, Post.bind q fun x s1 v H1 al1 hd t st1 rp q1 => by
    obtain ⟨src, e0, q2⟩ := optS_inv q1
    by_cases ht : ∃ ds, x = .tup ds
    · obtain ⟨ds, rfl⟩ := ht
      cases e0
      obtain ⟨pa, vs, rfl, sq, rs⟩ := tup_ok rp
      rw [hK] at sq
      exact ⟨pa, vs, rfl, .inr ⟨sq, q2 _ _ _ .refl st1 (good_revT hK rs.length rp)⟩⟩
    · have e1 : revD x s1 = (asL x s1).map fun ds => ⟨ds.reverse, fun s => deqO (asL x s) ds⟩ := by
        cases x <;> first | rfl | exact absurd ⟨_, rfl⟩ ht
      rw [e1] at e0
      cases e2 : asL x s1 with
      | none => rw [e2] at e0; cases e0
      | some ds =>
        rw [e2] at e0; cases e0
        obtain ⟨pa, vs, rfl, sq, rs⟩ := asL_ok st1 rp e2
        rw [hK] at sq
        exact ⟨pa, vs, rfl, .inl ⟨sq, q2 _ _ _ .refl st1 (good_rev hK rs.length rp)⟩⟩⟩
theorem pair_new {T : Addr} {x y : V} {dx dy : D} (st : StOk g H al s) (n : H T = none) (rx : Rep g H al x dx) (ry : Rep g H al y dy) :
    Tr g al H al (upd H T (.tup [x, y])) ∧ StOk g (upd H T (.tup [x, y])) al s ∧ Rep g (upd H T (.tup [x, y])) al (.ref T) (.tup [dx, dy]) := by
  have t : Tr g al H al (upd H T (.tup [x, y])) := .same (upd_new n)
  exact ⟨t, st.same (upd_new n), .tupH upd_same (st.notin n) (.cons (rx.tr t) (.cons (ry.tr t) .nil))⟩
def enumItems (ds : List D) : List D := ds.zipIdx.map fun (d, i) => .tup [.int (i : Nat), d]
def enumD (x : D) (s : Sto) : Option Src := (asL x s).map fun ds => ⟨enumItems ds, fun s => deqO (asL x s) ds⟩
theorem enum_get {ds : List D} {i : Nat} {d : D} (h : ds[i]? = some d) : (enumItems ds)[i]? = some (.tup [.int (i : Nat), d]) := by
  unfold enumItems
  rw [List.getElem?_map, List.getElem?_zipIdx, h]
  simp
theorem enum_len {ds : List D} : (enumItems ds).length = ds.length := by simp [enumItems]
theorem good_enum {x : D} {p : Addr} {ds : List D} (hK : g.K = X.K) (r : Rep g H al (.ref p) x) : Good g H al (Ite X.K p) ⟨enumItems ds, fun s => deqO (asL x s) ds⟩ := by
  intro F H1 al1 s1 t tz st gd
  obtain ⟨q, ws, e, sq, rs⟩ := asL_ok st (t _ _ r) (deqO_ok gd)
  cases e
  rw [hK] at sq
  have W := walk_enum (K := X.K) (a := p) (xs := ws)
  have hr : (enumItems ds).length = ws.length := by rw [enum_len, rs.length]
  refine ⟨fun i hi => W.goes i H1 (by rw [← hr]; exact hi) sq, by show (Ite X.K p).stop (enumItems ds).length H1; rw [hr]; exact W.stops H1 sq, fun i y H' hi hy => ?_⟩
  have hi' : i < ws.length := by rw [← hr]; exact hi
  obtain ⟨T, a, b, rfl, hn, rfl, e1, e2⟩ := W.yields i H1 y H' hi' sq hy
  cases e1
  obtain ⟨d, h1, h2⟩ := rs.getV e2
  obtain ⟨t1, st1, rp⟩ := pair_new st hn (.int _) h2
  exact ⟨t1, st1, _, enum_get h1, rp⟩
def mEnum (ms : MD (List D)) : MD Src := fun ρ s => (ms ρ s).bind fun ds s => match ds with
  | [x] => optS (enumD x s) fun c => .ok c s
  | _ => .bad
theorem mi_enum {e : Expr} {elts : List Expr} {kk : Nat} {tpos : Pos} (hK : g.K = X.K) (hg : Gl X "enumerate") (hm : X.mg "enumerate" = none) (ha : PA X [e] (TXs g E ms)) (hp : [e].all plainE = true) :
    PI X (.Tuple elts kk tpos) (.Call (.Name "enumerate" p) [e] [] pos) (TIx g E (mEnum ms)) := by
  rw [List.all_cons, Bool.and_eq_true] at hp
  refine pi_mono (pi_enum hg hm ha (star_cons hp.1)) fun σ H R ⟨ρ, al, s, er, st, q⟩ => ⟨ρ, al, s, er, st, Post.bind q fun ds s1 vs H1 al1 hd t st1 rs q1 => ?_⟩
  match ds, rs, q1 with
  | [x], rs, q1 =>
    obtain ⟨v, rfl, r⟩ := rs.one
    obtain ⟨src, e0, q2⟩ := optS_inv q1
    unfold enumD at e0
    cases e2 : asL x s1 with
    | none => rw [e2] at e0; cases e0
    | some ds =>
      rw [e2] at e0; cases e0
      obtain ⟨pa, vs, rfl, sq, rs⟩ := asL_ok st1 r e2
      rw [hK] at sq
      exact ⟨pa, vs, rfl, sq, q2 _ _ _ .refl st1 (good_enum hK r)⟩
  | [], _, q1 => exact q1.elim
  | _ :: _ :: _, _, q1 => exact q1.elim
def zipItems (ds es : List D) : List D := (ds.zip es).map fun (a, b) => .tup [a, b]
def zipD : D → D → Sto → Option Src
  | .tup ds, .tup es, _ => some ⟨zipItems ds es, fun _ => true⟩
  | x, y, s => match asL x s, asL y s with
    | some ds, some es => some ⟨zipItems ds es, fun s => deqO (asL x s) ds && deqO (asL y s) es⟩
    | _, _ => none
def mZip (ms : MD (List D)) : MD Src := fun ρ s => (ms ρ s).bind fun ds s => match ds with
  | [x, y] => optS (zipD x y s) fun c => .ok c s
  | _ => .bad
theorem zip_get {ds es : List D} {i : Nat} {a b : D} (h1 : ds[i]? = some a) (h2 : es[i]? = some b) : (zipItems ds es)[i]? = some (.tup [a, b]) := by
  unfold zipItems
  simp [List.zip, List.getElem?_zipWith, h1, h2]
theorem zip_len {ds es : List D} : (zipItems ds es).length = min ds.length es.length := by simp [zipItems]
theorem good_zip {x y : D} {a b : Addr} {ds es : List D} (hK : g.K = X.K) (r : Rep g H al (.ref a) x) (r' : Rep g H al (.ref b) y) : Good g H al (Itz X.K a b) ⟨zipItems ds es, fun s => deqO (asL x s) ds && deqO (asL y s) es⟩ := by
  intro F H1 al1 s1 t tz st gd
  obtain ⟨q, ws, e, sq, rs⟩ := asL_ok st (t _ _ r) (deqO_ok (Bool.and_eq_true_iff.mp gd).1)
  cases e
  obtain ⟨q, us, e, sq', rs'⟩ := asL_ok st (t _ _ r') (deqO_ok (Bool.and_eq_true_iff.mp gd).2)
  cases e
  rw [hK] at sq sq'
  have W := walk_zip (K := X.K) (a := a) (b := b) (xs := ws) (ys := us) rfl
  have hr : (zipItems ds es).length = min ws.length us.length := by rw [zip_len, rs.length, rs'.length]
  refine ⟨fun i hi => W.goes i H1 (by rw [← hr]; exact hi) ⟨sq, sq'⟩, by show (Itz X.K a b).stop (zipItems ds es).length H1; rw [hr]; exact W.stops H1 ⟨sq, sq'⟩, fun i z H' hi hy => ?_⟩
  obtain ⟨T, c, d, rfl, hn, rfl, e1, e2⟩ := W.yields i H1 z H' (by rw [← hr]; exact hi) ⟨sq, sq'⟩ hy
  obtain ⟨d1, h1, h2⟩ := rs.getV e1
  obtain ⟨d2, h3, h4⟩ := rs'.getV e2
  obtain ⟨t1, st1, rp⟩ := pair_new st hn h2 h4
  exact ⟨t1, st1, _, zip_get h1 h3, rp⟩
theorem good_zipT {a b : Addr} {ds es : List D} (hK : g.K = X.K) (r : Rep g H al (.ref a) (.tup ds)) (r' : Rep g H al (.ref b) (.tup es)) : Good g H al (ItzT X.K a b) ⟨zipItems ds es, fun _ => true⟩ := by
  intro F H1 al1 s1 t tz st gd
  obtain ⟨q, ws, e, sq, rs⟩ := tup_ok (t _ _ r)
  cases e
  obtain ⟨q, us, e, sq', rs'⟩ := tup_ok (t _ _ r')
  cases e
  rw [hK] at sq sq'
  have hr : (zipItems ds es).length = min ws.length us.length := by rw [zip_len, rs.length, rs'.length]
  refine ⟨fun i hi => ?_, ⟨ws, us, sq, sq', by show ws.length ≤ (zipItems ds es).length ∨ us.length ≤ (zipItems ds es).length; rw [hr]; omega⟩, fun i z H' hi hy => ?_⟩
  · have hi' : i < min ws.length us.length := by rw [← hr]; exact hi
    have h1 : i < ws.length := by omega
    have h2 : i < us.length := by omega
    exact ⟨ws, us, ws[i], us[i], sq, sq', by simp [h1], by simp [h2]⟩
  · obtain ⟨T, c, d, rfl, hn, rfl, e1, e2⟩ := hy
    obtain ⟨d1, h1, h2⟩ := rs.getV (e1 ws sq)
    obtain ⟨d2, h3, h4⟩ := rs'.getV (e2 us sq')
    obtain ⟨t1, st1, rp⟩ := pair_new st hn h2 h4
    exact ⟨t1, st1, _, zip_get h1 h3, rp⟩
theorem mi_zip {e e2 : Expr} {elts : List Expr} {kk : Nat} {tpos : Pos} (hK : g.K = X.K) (hg : Gl X "zip") (hm : X.mg "zip" = none) (ha : PA X [e, e2] (TXs g E ms)) (hp : [e, e2].all plainE = true) :
    PI X (.Tuple elts kk tpos) (.Call (.Name "zip" p) [e, e2] [] pos) (TIx g E (mZip ms)) := by
  rw [List.all_cons, Bool.and_eq_true] at hp
  refine pi_mono (pi_zipA hg hm ha (star_cons hp.1) (star_any hp.2)) fun σ H R ⟨ρ, al, s, er, st, q⟩ => ⟨ρ, al, s, er, st, Post.bind q fun ds s1 vs H1 al1 hd t st1 rs q1 => ?_⟩
  match ds, rs, q1 with
  | [x, y], rs, q1 =>
    obtain ⟨v, w, rfl, rx, ry⟩ := rs.two
    obtain ⟨src, e0, q2⟩ := optS_inv q1
    unfold zipD at e0
    split at e0
    · cases e0
      obtain ⟨pa, ws, rfl, sq, _⟩ := tup_ok rx
      obtain ⟨pb, us, rfl, sq', _⟩ := tup_ok ry
      rw [hK] at sq sq'
      exact ⟨pa, pb, ws, us, rfl, .inr ⟨sq, sq', q2 _ _ _ .refl st1 (good_zipT hK rx ry)⟩⟩
    · split at e0
      · rename_i ds es h1 h2
        cases e0
        obtain ⟨pa, ws, rfl, sq, _⟩ := asL_ok st1 rx h1
        obtain ⟨pb, us, rfl, sq', _⟩ := asL_ok st1 ry h2
        rw [hK] at sq sq'
        exact ⟨pa, pb, ws, us, rfl, .inl ⟨sq, sq', q2 _ _ _ .refl st1 (good_zip hK rx ry)⟩⟩
      · cases e0
  | [], _, q1 => exact q1.elim
  | [_], _, q1 => exact q1.elim
  | _ :: _ :: _ :: _, _, q1 => exact q1.elim
end
theorem StOk.no_tupK {p : Addr} {vs : List V} (st : StOk g H al s) (h : H p = some (.tup vs)) : Out g al p := by
  refine ⟨fun m => ?_, fun m => ?_⟩
  · obtain ⟨o, e, nt⟩ := st.there m
    rw [h] at e; cases e; exact nt _ rfl
  · obtain ⟨o, e, nt⟩ := st.fs p m
    rw [h] at e; cases e; exact nt _ rfl
def kD : Key → D
  | .inl i => .int i
  | .inr x => .str x
theorem kD_rep {k : Key} : Rep g H al (kV k) (kD k) := by
  cases k with
  | inl i => exact .int i
  | inr x => exact .str x
theorem kDs_rep : ∀ {ks : List Key}, Reps g H al (ks.map kV) (ks.map kD)
  | [] => .nil
  | k :: ks => .cons kD_rep kDs_rep
def tD (k : List Key) : D := .tup (k.map kD)
def srcK (x : D) (s : Sto) : Option Src := match x with
  | .ref n => match s[n]? with
    | some (.fK kvs) => some ⟨kvs.map fun kv => kD kv.1, fun _ => true⟩
    | some (.fT kvs) => if ktB = true then none else some ⟨kvs.map fun kv => tD kv.1, fun _ => true⟩
    | _ => none
  | _ => none
def mSrcK (m : MD D) : MD Src := fun ρ s => (m ρ s).bind fun x s => optS (srcK x s) fun c => .ok c s
theorem map_fst_get {α β γ : Type} {l : List (α × β)} {m : List (α × γ)} (h : l.map (·.1) = m.map (·.1)) {i : Nat} {k : α} {v : β} (e : l[i]? = some (k, v)) : ∃ w, m[i]? = some (k, w) := by
  have h1 : (l.map (·.1))[i]? = some k := by rw [List.getElem?_map, e]; rfl
  rw [h, List.getElem?_map] at h1
  obtain ⟨p, hp, e2⟩ := Option.map_eq_some_iff.mp h1
  exact ⟨p.2, by rw [hp, ← e2]⟩
theorem good_keys {d : Addr} {od : Obj} {kv : List (Key × V)} {kvs : List (Key × D)} (hd : H d = some (.frz od (.dK kv))) (hk : kv.map (·.1) = kvs.map (·.1)) : Good g H al (Itk d od kv) ⟨kvs.map fun kv => kD kv.1, fun _ => true⟩ := by
  intro F H1 al1 s1 t tz st gd
  have h1 := tz _ _ _ hd
  have hl : kv.length = kvs.length := by have := congrArg List.length hk; simpa using this
  refine ⟨fun i hi => ⟨h1, by rw [hl]; simpa using hi⟩, ⟨h1, by rw [hl]; simp⟩, fun i y H' hi hy => ?_⟩
  obtain ⟨e, k, v, e1, e2⟩ := hy
  subst e; subst e2
  obtain ⟨w, e3⟩ := map_fst_get hk e1
  exact ⟨.refl, st, kD k, by simp [e3], kD_rep⟩
theorem good_keysT {d : Addr} {od : Obj} {kv : List (List Key × V)} {kvs : List (List Key × D)} (hd : H d = some (.frz od (.dT kv))) (hk : kv.map (·.1) = kvs.map (·.1)) : Good g H al (Itkt d od kv) ⟨kvs.map fun kv => tD kv.1, fun _ => true⟩ := by
  intro F H1 al1 s1 t tz st gd
  have h1 := tz _ _ _ hd
  have hl : kv.length = kvs.length := by have := congrArg List.length hk; simpa using this
  refine ⟨fun i hi => ⟨h1, by rw [hl]; simpa using hi⟩, ⟨h1, by rw [hl]; simp⟩, fun i y H' hi hy => ?_⟩
  obtain ⟨e, k, v, q, e1, e2, e4⟩ := hy
  subst e; subst e2
  obtain ⟨w, e3⟩ := map_fst_get hk e1
  exact ⟨.refl, st, tD k, by simp [e3], .tupH e4 (st.no_tupK e4) kDs_rep⟩
theorem mi_keys {tg e : Expr} {m : MD D} (he : PE X e (TX g E m)) : PI X tg e (TIx g E (mSrcK m)) :=
  pi_mono (pi_keys he) fun σ H R h => TG.bind (k := fun x ρ s => optS (srcK x s) fun c => .ok c s) h fun x v H1 al1 ρ s1 er st rp p => by
    obtain ⟨c, ec, p⟩ := optS_inv p
    unfold srcK at ec
    cases x <;> first | (cases ec; done) | skip
    rename_i n
    cases rp with
    | ref hp =>
      rename_i q
      cases e1 : s1[n]? with
      | none => simp only [e1] at ec; cases ec
      | some cc =>
        simp only [e1] at ec
        have cell := st.cell n _ _ hp e1
        cases cc with
        | fK kvs =>
          cases ec
          obtain ⟨od, kv, h1, h2, _⟩ := cell
          exact ⟨q, od, rfl, .inl ⟨kv, h1, p _ _ _ .refl st (good_keys h1 h2)⟩⟩
        | fT kvs =>
          by_cases z : ktB = true
          · simp only [if_pos z] at ec; cases ec
          · simp only [if_neg z] at ec
            cases ec
            obtain ⟨od, kv, h1, h2, _⟩ := cell
            exact ⟨q, od, rfl, .inr ⟨kv, h1, p _ _ _ .refl st (good_keysT h1 h2)⟩⟩
        | _ => cases ec
end Mx
namespace Mx
open PySem L2 RZ RT
variable {g : G} {E : XK} {X : Cx} {H : Hp} {al : List Addr} {s : Sto} {σ : St} {ρ : Ro}
inductive Fl where
  | nx (ρ : Ro) | ret (d : D) | bk (ρ : Ro) | ct (ρ : Ro)
inductive FV where
  | nx (σ : St) | ret (v : V) | bk (σ : St) | ct (σ : St)
def Dq (En : Ends) : FV → Hp → Prop
  | .nx σ, H => En.nx σ H
  | .ret v, H => En.rt v H
  | .bk σ, H => En.bk σ H
  | .ct σ, H => En.ct σ H
def relF (g : G) (H : Hp) (al : List Addr) : FV → Fl → Prop
  | .nx σ, .nx ρ => EnvR g H al σ ρ
  | .ret v, .ret d => Rep g H al v d
  | .bk σ, .bk ρ => EnvR g H al σ ρ
  | .ct σ, .ct ρ => EnvR g H al σ ρ
  | _, _ => False
abbrev TSx (g : G) (E : XK) (m : MD Fl) : TS := fun En σ H => TG g E (relF g) m σ H (Dq En)
abbrev relE (g : G) : Hp → List Addr → St → Ro → Prop := fun H al σ ρ => EnvR g H al σ ρ
theorem wipe_get : ∀ (vs : List Nat) (σ : St) (j : Nat), (L2.wipe σ vs)[j]? = if j ∈ vs then (σ[j]?).map (fun _ => none) else σ[j]?
  | [], σ, j => by simp [L2.wipe]
  | v :: vs, σ, j => by
    show ((L2.wipe σ vs).set v none)[j]? = _
    by_cases e : v = j
    · subst e
      rw [if_pos List.mem_cons_self]
      by_cases hl : v < σ.length
      · rw [List.getElem?_set_self (by rw [L2.wipe_length]; exact hl)]
        simp [hl]
      · rw [List.getElem?_eq_none (by simpa [L2.wipe_length] using hl), List.getElem?_eq_none (by simpa using hl)]; rfl
    · rw [List.getElem?_set_ne e, wipe_get vs σ j]
      by_cases m : j ∈ vs
      · rw [if_pos m, if_pos (List.mem_cons_of_mem _ m)]
      · rw [if_neg m, if_neg (fun z => (List.mem_cons.mp z).elim (fun q => e q.symm) m)]
theorem wipe_set {vs : List Nat} {σ : St} {i : Nat} {x : Option V} (h : i ∈ vs) : L2.wipe (σ.set i x) vs = L2.wipe σ vs := by
  apply List.ext_getElem?
  intro j
  rw [wipe_get, wipe_get]
  by_cases m : j ∈ vs
  · rw [if_pos m, if_pos m]
    by_cases e : i = j
    · subst e
      by_cases hl : i < σ.length
      · rw [List.getElem?_set_self hl]; simp [hl]
      · rw [List.getElem?_eq_none (by simpa using hl), List.getElem?_eq_none (by simpa using hl)]
    · rw [List.getElem?_set_ne e]
  · rw [if_neg m, if_neg m, List.getElem?_set_ne (fun e => m (by rw [← e]; exact h))]
/-- a target, within the slots vs -/
def tgR (g : G) (E : XK) (vs : List Nat) (mt : D → MD Ro) : L2.TG := fun v σ H Q => ∃ d ρ al s, Rep g H al v d ∧ EnvR g H al σ ρ ∧ StOk g H al s ∧ Post g E (relE g) (mt d ρ s) H al (fun σ' H' => L2.wipe σ' vs = L2.wipe σ vs → Q σ' H')
def tgsR (g : G) (E : XK) (vs : List Nat) (mt : List D → MD Ro) : L2.TGs := fun ws σ H Q => ∃ ds ρ al s, Reps g H al ws ds ∧ EnvR g H al σ ρ ∧ StOk g H al s ∧ Post g E (relE g) (mt ds ρ s) H al (fun σ' H' => L2.wipe σ' vs = L2.wipe σ vs → Q σ' H')
theorem pg_mono {tg : Expr} {t t' : L2.TG} (h : PG X tg t) (k : ∀ v σ H Q, t' v σ H Q → t v σ H Q) : PG X tg t' := ⟨fun pins s σ H v u Q I r q => h.run pins s σ H v u Q I r (k _ _ _ _ q)⟩
theorem pgs_mono {tg : List Expr} {t t' : L2.TGs} (h : PGs X tg t) (k : ∀ v σ H Q, t' v σ H Q → t v σ H Q) : PGs X tg t' := ⟨fun pins s σ H v u Q I r q => h.run pins s σ H v u Q I r (k _ _ _ _ q)⟩
def tgName (i : Nat) : D → MD Ro := fun d ρ s => .ok (ρ.set i (some d)) s
def tgNil : List D → MD Ro := fun ds ρ s => match ds with
  | [] => .ok ρ s
  | _ => .bad
def tgCons (t : D → MD Ro) (ts : List D → MD Ro) : List D → MD Ro := fun ds ρ s => match ds with
  | d :: ds => (t d ρ s).bind fun ρ s => ts ds ρ s
  | _ => .bad
def tgTup (ts : List D → MD Ro) : D → MD Ro := fun d ρ s => match d with
  | .tup ds => ts ds ρ s
  | _ => .bad
section
variable {i : Nat} {x : Str} {pos : Pos} {vs : List Nat} {e : Expr} {es : List Expr} {t : D → MD Ro} {ts : List D → MD Ro}
theorem mg_name (hN : X.N.Nodup) (hi : X.N[i]? = some x) (hx : Loc X.env.scope x) (hf : X.fn x = true ∨ X.env.scope.names.lookup x = some .local) (hv : i ∈ vs) : PG X (.Name x pos) (tgR g E vs (tgName i)) :=
  pg_mono (pg_name hN hi hx hf) fun v σ H Q ⟨d, ρ, al, s, rp, er, st, p⟩ => p _ _ _ .refl st (er.set rp) (wipe_set hv)
theorem mgs_nil : PGs X [] (tgsR g E vs tgNil) := pgs_mono pgs_nil fun ws σ H Q ⟨ds, ρ, al, s, rs, er, st, p⟩ => by
  cases ds with
  | nil => cases rs; exact ⟨rfl, p _ _ _ .refl st er rfl⟩
  | cons d ds => exact p.elim
theorem assign_cons (hp : plainE e = true) {env : Env} : (assignEach (e :: es) env).map (·.2) = assign e env :: (assignEach es env).map (·.2) := by
  cases e <;> first | rfl | cases hp
theorem mgs_cons (h1 : PG X e (tgR g E vs t)) (h2 : PGs X es (tgsR g E vs ts)) (hp : plainE e = true) : PGs X (e :: es) (tgsR g E vs (tgCons t ts)) :=
  pgs_mono (pgs_cons h1 h2 (assign_cons hp)) fun ws σ H Q ⟨ds, ρ, al, s, rs, er, st, p⟩ => by
    cases ds with
    | nil => exact p.elim
    | cons d ds =>
      cases rs with
      | cons r1 r2 =>
        refine ⟨_, _, rfl, d, ρ, al, s, r1, er, st, ?_⟩
        have p' : Post g E (relE g) ((t d ρ s).bind fun ρ s => ts ds ρ s) H al (fun σ' H' => L2.wipe σ' vs = L2.wipe σ vs → Q σ' H') := p
        refine Post.bind p' fun ρ1 s1 σ1 H1 al1 _ tr st1 er1 p1 w1 => ?_
        exact ⟨ds, ρ1, al1, s1, r2.tr tr, er1, st1, p1.mono fun σ' H' q w => q (w.trans w1)⟩
theorem assign_len : ∀ {es : List Expr} {env : Env}, (assignEach es env).length = es.length
  | [], _ => rfl
  | e :: es, env => by
    have h : (assignEach (e :: es) env).length = (assignEach es env).length + 1 := by cases e <;> rfl
    rw [h, assign_len]; rfl
theorem assign_star : ∀ {es : List Expr} {env : Env}, es.all plainE = true → (assignEach es env).findIdx? (·.1) = none
  | [], _, _ => rfl
  | e :: es, env, h => by
    rw [List.all_cons, Bool.and_eq_true] at h
    have h2 : ∃ t, assignEach (e :: es) env = (false, t) :: assignEach es env := by
      cases e <;> first | exact ⟨_, rfl⟩ | cases h.1
    obtain ⟨t, h2⟩ := h2
    rw [h2, List.findIdx?_cons]
    simp [assign_star h.2]
def LenT (n : Nat) (ts : List D → MD Ro) : Prop := ∀ ds ρ s, ds.length ≠ n → ts ds ρ s = .bad
theorem lenT_nil : LenT 0 tgNil := fun ds ρ s h => by
  cases ds with
  | nil => exact absurd rfl h
  | cons _ _ => rfl
def Nev (r : Rs Ro) : Prop := ∀ c ds s, r ≠ .exc c ds s
theorem mg_tup {k n : Nat} (hK : g.K = X.K) (hc : X.calm = true) (h : PGs X es (tgsR g E vs ts)) (hn : es.length = n) (hl : ∀ ds ρ s H al Q, ds.length ≠ n → Post g E (relE g) (ts ds ρ s) H al Q → False) (hp : es.all plainE = true) : PG X (.Tuple es k pos) (tgR g E vs (tgTup ts)) :=
  pg_mono (pg_tup (n := n) hc h (by rw [assign_len, hn]) (assign_star hp)) fun v σ H Q ⟨d, ρ, al, s, rp, er, st, p⟩ => by
    cases d <;> first | exact p.elim | skip
    rename_i ds
    obtain ⟨pa, ws, rfl, sq, rs⟩ := tup_ok rp
    rw [hK] at sq
    have hlen : ds.length = n := Classical.byContradiction fun z => hl ds ρ s _ _ _ z p
    exact ⟨pa, ws, rfl, sq, by rw [rs.length, hlen], ds, ρ, al, s, rs, er, st, p⟩
end
def sNext : MD Fl := fun ρ s => .ok (.nx ρ) s
def sBreak : MD Fl := fun ρ s => .ok (.bk ρ) s
def sCont : MD Fl := fun ρ s => .ok (.ct ρ) s
def sExpr (m : MD D) : MD Fl := fun ρ s => (m ρ s).bind fun _ s => .ok (.nx ρ) s
def sRet (m : MD D) : MD Fl := fun ρ s => (m ρ s).bind fun d s => .ok (.ret d) s
def sRetN : MD Fl := fun _ s => .ok (.ret .non) s
def sSeq (a b : MD Fl) : MD Fl := fun ρ s => (a ρ s).bind fun f s => match f with
  | .nx ρ => b ρ s
  | f => .ok f s
def sIf (c : MD Bool) (a b : MD Fl) : MD Fl := fun ρ s => (c ρ s).bind fun k s => if k = true then a ρ s else b ρ s
def sAsg (m : MD D) (t : D → MD Ro) : MD Fl := fun ρ s => (m ρ s).bind fun d s => (t d ρ s).bind fun ρ s => .ok (.nx ρ) s
theorem dq_ok {En : Ends} {f : Fl} {fv : FV} (p : Post g E (relF g) (.ok f s) H al (Dq En)) (st : StOk g H al s) (r : relF g H al fv f) : Dq En fv H := p _ _ _ .refl st r
section
variable {st : Stmt} {rest : List Stmt} {a b : List Stmt} {e c : Expr} {m : MD D} {mt : MD Bool} {sa sb : MD Fl} {pos : Pos}
theorem ms_nil : PSs X [] (TSx g E sNext) := pss_mono pss_nil fun En σ H ⟨ρ, al, s, er, st, p⟩ => dq_ok (fv := .nx σ) p st er
theorem ms_pass : PS X (.Pass pos) (TSx g E sNext) := ps_mono ps_pass fun En σ H ⟨ρ, al, s, er, st, p⟩ => dq_ok (fv := .nx σ) p st er
theorem ms_break : PS X (.Break pos) (TSx g E sBreak) := ps_mono ps_break fun En σ H ⟨ρ, al, s, er, st, p⟩ => dq_ok (fv := .bk σ) p st er
theorem ms_cont : PS X (.Continue pos) (TSx g E sCont) := ps_mono ps_continue fun En σ H ⟨ρ, al, s, er, st, p⟩ => dq_ok (fv := .ct σ) p st er
theorem tx_seq {En : Ends} (h : TSx g E (sSeq sa sb) En σ H) : tSeq (TSx g E sa) (TSx g E sb) En σ H := by
  obtain ⟨ρ, al, s, er, st, p⟩ := h
  refine ⟨ρ, al, s, er, st, Post.bind p fun f s1 fv H1 al1 _ t st1 rf p1 => ?_⟩
  cases f <;> cases fv <;> first | exact rf.elim | skip
  · exact ⟨_, al1, s1, rf, st1, p1⟩
  · exact (show Dq En (.ret _) H1 from dq_ok (fv := .ret _) p1 st1 rf)
  · exact (show Dq En (.bk _) H1 from dq_ok (fv := .bk _) p1 st1 rf)
  · exact (show Dq En (.ct _) H1 from dq_ok (fv := .ct _) p1 st1 rf)
theorem ms_cons (h1 : PS X st (TSx g E sa)) (h2 : PSs X rest (TSx g E sb)) : PSs X (st :: rest) (TSx g E (sSeq sa sb)) := pss_mono (pss_cons h1 h2) fun _ _ _ h => tx_seq h
theorem ms_ret (h : PE X e (TX g E m)) : PS X (.Return (some e) pos) (TSx g E (sRet m)) := ps_mono (ps_ret h) fun En σ H ⟨ρ, al, s, er, st, p⟩ =>
  ⟨ρ, al, s, er, st, Post.bind p fun d s1 v H1 al1 _ t st1 rp p1 => dq_ok (fv := .ret v) p1 st1 rp⟩
theorem ms_retN : PS X (.Return none pos) (TSx g E sRetN) := ps_mono ps_retN fun En σ H ⟨ρ, al, s, er, st, p⟩ => dq_ok (fv := .ret .non) p st (.non)
theorem ms_if (hc : PT X c (TXb g E mt)) (ha : PSs X a (TSx g E sa)) (hb : PSs X b (TSx g E sb)) : PS X (.If c a b pos) (TSx g E (sIf mt sa sb)) :=
  ps_mono (ps_if hc ha hb) fun En σ H ⟨ρ, al, s, er, st, p⟩ => ⟨ρ, al, s, er, st, Post.bind p fun k s1 v H1 al1 _ t st1 rp p1 => by
    have rp' : v = k := rp
    subst rp'
    cases v with
    | true => rw [if_pos rfl] at p1 ⊢; exact ⟨ρ, al1, s1, er.tr t, st1, p1⟩
    | false => rw [if_neg Bool.false_ne_true] at p1 ⊢; exact ⟨ρ, al1, s1, er.tr t, st1, p1⟩⟩
def noComp : Expr → Bool
  | .ListComp .. => false
  | .SetComp .. => false
  | .DictComp .. => false
  | _ => true
theorem sw_no {t : Option Expr} {l : Nat} {env : Env} (h : noComp e = true) : swapsWith e t l env = pure false := by
  cases e <;> first | rfl | cases h
theorem sw_attr {o : Expr} {f : Str} {p' : Pos} {l : Nat} {env : Env} : swapsWith e (some (.Attribute o f p')) l env = pure false := by
  cases e <;> rfl
theorem ms_expr (h : PE X e (TX g E m)) (hn : noComp e = true) : PS X (.Expr e pos) (TSx g E (sExpr m)) := ps_mono (ps_expr h (sw_no hn)) fun En σ H ⟨ρ, al, s, er, st, p⟩ =>
  ⟨ρ, al, s, er, st, Post.bind p fun d s1 v H1 al1 _ t st1 rp p1 => dq_ok (fv := .nx σ) p1 st1 (er.tr t)⟩
theorem ms_doc {x : Str} {j : Nat} {pos' : Pos} : PS X (.Expr (.Constant (.str x) j pos) pos') (TSx g E sNext) := ps_mono ps_doc fun En σ H ⟨ρ, al, s, er, st, p⟩ => dq_ok (fv := .nx σ) p st er
theorem tx_asg {vs : List Nat} {t : D → MD Ro} {En : Ends} (h : TSx g E (sAsg m t) En σ H) : tAsg (TX g E m) (tgR g E vs t) En σ H := by
  obtain ⟨ρ, al, s, er, st, p⟩ := h
  exact ⟨ρ, al, s, er, st, Post.bind p fun d s1 v H1 al1 _ tr st1 rp p1 => ⟨d, ρ, al1, s1, rp, er.tr tr, st1, Post.bind p1 fun ρ2 s2 σ2 H2 al2 _ t2 st2 er2 p2 _ => dq_ok (fv := .nx σ2) p2 st2 er2⟩⟩
def isTupE : Expr → Bool
  | .Tuple .. => true
  | .List .. => true
  | _ => false
theorem sw_stores {tg : Expr} {env : Env} (h : isTupE e = false ∨ isTupE tg = false) : swappedStores [tg] e env = pure none := by
  unfold swappedStores
  rcases h with h | h
  · cases e <;> first | (cases h; done) | (cases tg <;> rfl)
  · cases tg <;> first | (cases h; done) | rfl
/-- target = value, the value no comprehension -/
theorem ms_asg {tg : Expr} {vs : List Nat} {t : D → MD Ro} (he : PE X e (TX g E m)) (hg : PG X tg (tgR g E vs t)) (hn : noComp e = true) (hw : isTupE e = false ∨ isTupE tg = false) (hp : plainE tg = true) : PS X (.Assign [tg] e pos) (TSx g E (sAsg m t)) :=
  ps_mono (ps_asg he hg (sw_no hn) (sw_stores hw) (assign_cons hp)) fun _ _ _ h => tx_asg h
end
end Mx
namespace Mx
open PySem L2 RZ RT
variable {g : G} {E : XK} {X : Cx} {H : Hp} {al : List Addr} {s : Sto} {σ : St} {ρ : Ro}
/-- the two steps of bind, what is wanted stays said at the base -/
theorem Post.bindB {β γ δ ε : Type} {E : XK} {rel : Hp → List Addr → β → γ → Prop} {rel2 : Hp → List Addr → δ → ε → Prop} {r : Rs γ} {k : γ → Sto → Rs ε} {Q : β → Hp → Prop} {Q2 : δ → Hp → Prop} {H0 : Hp} {al0 : List Addr}
    (h : Post g E rel2 (r.bind k) H0 al0 Q2) (t0 : Tr g al0 H0 al H)
    (hk : ∀ d s1 v H1 al1, r = .ok d s1 → Tr g al H al1 H1 → StOk g H1 al1 s1 → rel H1 al1 v d → Post g E rel2 (k d s1) H0 al0 Q2 → Q v H1) : Post g E rel r H al Q := by
  cases r with
  | bad => exact h
  | ok d s => exact fun v H' al' u st rp => hk d s v H' al' rfl u st rp h
  | exc c ds s => exact fun v a H' al' u => h v a H' al' (t0.trans u)
section
def forM (mt : D → MD Ro) (body : MD Fl) (gd : Sto → Bool) : List D → MD Fl
  | [], ρ, s => if gd s then .ok (.nx ρ) s else .bad
  | d :: ds, ρ, s => if gd s then (mt d ρ s).bind fun ρ s => (body ρ s).bind fun f s => match f with
      | .nx ρ => forM mt body gd ds ρ s
      | .ct ρ => forM mt body gd ds ρ s
      | .bk ρ => .ok (.nx ρ) s
      | .ret d => .ok (.ret d) s
    else .bad
end
def sFor (src : MD Src) (mt : D → MD Ro) (body : MD Fl) : MD Fl := fun ρ s => (src ρ s).bind fun c s => forM mt body c.guard c.items ρ s
theorem drop_cons {α : Type} {l : List α} {i : Nat} {d : α} (h : l[i]? = some d) : l.drop i = d :: l.drop (i + 1) := by
  obtain ⟨h1, h2⟩ := List.getElem?_eq_some_iff.mp h
  rw [List.drop_eq_getElem_cons h1, h2]
theorem ms_for {tg iter : Expr} {body : List Stmt} {src : MD Src} {vs : List Nat} {mt : D → MD Ro} {mb : MD Fl} {pos : Pos} (hp : PassesOwn (model X.prog X.w) X.A X.env X.xe) (hc : X.calm = true) (hi : PI X tg iter (TIx g E src)) (hg : PG X tg (tgR g E vs mt)) (hb : PSs X body (TSx g E mb))
    (hs : ∀ x, foldedSetIterable iter X.env x = pure x) : PS X (.For tg iter body [] pos) (TSx g E (sFor src mt mb)) := by
  refine ps_mono (ps_for hp hc hi hg hb hs) fun En σ H ⟨ρ, al, s, er, st, p⟩ => ?_
  refine ⟨ρ, al, s, er, st, Post.bind p fun c s1 J H1 al1 _ t st1 gd p1 => ?_⟩
  refine ⟨fun i m σ' H' => ∃ ρ' al' s', EnvR g H' al' σ' ρ' ∧ StOk g H' al' s' ∧ Tr g al1 H1 al' H' ∧ i ≤ c.items.length ∧ m = c.items.length - i ∧ Post g E (relF g) (forM mt mb c.guard (c.items.drop i) ρ' s') H' al' (Dq En),
    ⟨c.items.length, ρ, al1, s1, er.tr t, st1, .refl, Nat.zero_le _, rfl, p1⟩, ?_⟩
  rintro i m σ' H' ⟨ρ', al', s', er', st', t', hi', rfl, p'⟩
  by_cases hlt : i < c.items.length
  · have hd : c.items[i]? = some c.items[i] := by simp [hlt]
    rw [drop_cons hd] at p'
    by_cases hgd : c.guard s'
    · rw [forM, if_pos hgd] at p'
      obtain ⟨g1, g2, g3⟩ := gd g.F H' al' s' (fun _ _ r => Rep.tr t' r) t'.fz st' hgd
      refine .inr ⟨g1 i hlt, fun σ3 H3 => ∃ ρ3 al3 s3, EnvR g H3 al3 σ3 ρ3 ∧ StOk g H3 al3 s3 ∧ Tr g al1 H1 al3 H3 ∧ Post g E (relF g) (forM mt mb c.guard (c.items.drop (i + 1)) ρ3 s3) H3 al3 (Dq En), ?_, fun x H2 hy => ?_⟩
      · rintro σ3 H3 ⟨ρ3, al3, s3, er3, st3, t3, p3⟩
        exact ⟨c.items.length - (i + 1), by omega, ρ3, al3, s3, er3, st3, t3, hlt, rfl, p3⟩
      · obtain ⟨t2, st2, d, e1, rp⟩ := g3 i x H2 hlt hy
        rw [hd] at e1; cases e1
        refine ⟨_, ρ', al', s', rp, er'.tr t2, st2, Post.bind (p'.tr t2) fun ρ4 s4 σ4 H4 al4 _ t4 st4 er4 p4 _ => ⟨ρ4, al4, s4, er4, st4, Post.bind p4 fun f s5 fv H5 al5 _ t5 st5 rf p5 => ?_⟩⟩
        have tt : Tr g al1 H1 al5 H5 := ((t'.trans t2).trans t4).trans t5
        cases f <;> cases fv <;> first | exact rf.elim | skip
        · exact ⟨_, al5, s5, rf, st5, tt, p5⟩
        · exact (show Dq En (.ret _) H5 from dq_ok (fv := .ret _) p5 st5 rf)
        · exact (show Dq En (.nx _) H5 from dq_ok (fv := .nx _) p5 st5 rf)
        · exact ⟨_, al5, s5, rf, st5, tt, p5⟩
    · rw [forM, if_neg hgd] at p'; exact p'.elim
  · have e : i = c.items.length := by omega
    subst e
    rw [List.drop_length] at p'
    by_cases hgd : c.guard s'
    · rw [forM, if_pos hgd] at p'
      obtain ⟨g1, g2, g3⟩ := gd g.F H' al' s' (fun _ _ r => Rep.tr t' r) t'.fz st' hgd
      exact .inl ⟨g2, dq_ok (fv := .nx σ') p' st' er'⟩
    · rw [forM, if_neg hgd] at p'; exact p'.elim
def unl (n : Nat) (c : Cell) : Rs Fl → Rs Fl
  | .ok f s => .ok f (s.set n c)
  | _ => .bad
def sForD (m : MD D) (mt : D → MD Ro) (body : MD Fl) : MD Fl := fun ρ s => match m ρ s with
  | .ok (.ref n) _ => match s[n]? with
    | some (.dK kvs) => unl n (.dK kvs) (sFor (mSrcK m) mt body ρ (s.set n (.fK kvs)))
    | some (.dT kvs) => unl n (.dT kvs) (sFor (mSrcK m) mt body ρ (s.set n (.fT kvs)))
    | _ => .bad
  | _ => .bad
theorem Tr.unlock {H' : Hp} {al' : List Addr} {n : Nat} {pa : Addr} {q u w : HO} (hp : al[n]? = some pa) (hq : H pa = some q) (nf : ∀ o u, q ≠ .frz o u) (t : Tr g al (upd H pa w) al' H') : Tr g al H al' (upd H' pa u) := by
  obtain ⟨be, e, f1, f2⟩ := t.ex
  have nep : ∀ {a o}, H a = some o → a ≠ pa → (upd H pa w) a = some o := fun h z => by rw [upd_ne z]; exact h
  refine ⟨⟨be, e, fun a m => ?_, f2⟩, fun a o na h => ?_, fun a h => ?_, fun a o v h => ?_⟩
  · have := f1 a m
    by_cases z : a = pa
    · rw [z, upd_same] at this; cases this
    · rw [upd_ne z] at this; exact this
  · have z : a ≠ pa := fun z => na (by rw [z]; exact List.mem_of_getElem? hp)
    rw [upd_ne z]; exact t.keep a o na (nep h z)
  · by_cases z : a = pa
    · rw [z, upd_same]; exact fun z => nomatch z
    · rw [upd_ne z]; exact t.dom a (by rw [upd_ne z]; exact h)
  · have z : a ≠ pa := fun z => by rw [z, hq] at h; cases h; exact nf _ _ rfl
    rw [upd_ne z]; exact t.fz a o v (nep h z)
theorem relF_out {H' : Hp} {fv : FV} {f : Fl} (k : ∀ a o, a ∉ al → H a = some o → H' a = some o) (h : relF g H al fv f) : relF g H' al fv f := by
  cases fv <;> cases f <;> first | exact h.elim | skip
  · exact ⟨h.1, fun i d e => let ⟨v, a, b⟩ := h.2 i d e; ⟨v, a, b.out k⟩⟩
  · exact Rep.out k h
  · exact ⟨h.1, fun i d e => let ⟨v, a, b⟩ := h.2 i d e; ⟨v, a, b.out k⟩⟩
  · exact ⟨h.1, fun i d e => let ⟨v, a, b⟩ := h.2 i d e; ⟨v, a, b.out k⟩⟩
theorem ms_forD {tg iter : Expr} {body : List Stmt} {m : MD D} {vs : List Nat} {mt : D → MD Ro} {mb : MD Fl} {pos : Pos} (hp : PassesOwn (model X.prog X.w) X.A X.env X.xe) (hc : X.calm = true) (hi : PE X iter (TX g E m)) (hg : PG X tg (tgR g E vs mt)) (hb : PSs X body (TSx g E mb))
    (hs : ∀ x, foldedSetIterable iter X.env x = pure x) : PS X (.For tg iter body [] pos) (TSx g E (sForD m mt mb)) := by
  refine ps_mono (ps_lock (ms_for hp hc (mi_keys hi) hg hb hs)) fun En σ H ⟨ρ, al, s, er, st, p⟩ => ?_
  unfold sForD at p
  split at p
  · rename_i n _ _
    have cont : ∀ (pa : Addr) (u : HO) (c0 c1 : Cell), al[n]? = some pa → H pa = some u → Mut (some u) → (∀ o w, u ≠ .frz o w) → (∀ od, CellOk g (upd H pa (.frz od u)) al pa c1) →
        (∀ (H' : Hp) (al' : List Addr) (od : Obj), Tr g al (upd H pa (.frz od u)) al' H' → CellOk g (upd H' pa u) al' pa c0) → Post g E (relF g) (unl n c0 (sFor (mSrcK m) mt mb ρ (s.set n c1))) H al (Dq En) → tLock (TSx g E (sFor (mSrcK m) mt mb)) En σ H := by
      intro pa u c0 c1 hpa h1 mu nf hc1 hc0 p
      refine ⟨pa, u, h1, mu, fun od => ?_⟩
      have t0 : Tr g al H al (upd H pa (.frz od u)) := .write hpa h1 nf
      refine ⟨ρ, al, s.set n c1, er.tr t0, st.write hpa (hc1 od), ?_⟩
      cases q : sFor (mSrcK m) mt mb ρ (s.set n c1) with
      | bad => rw [q] at p; exact p.elim
      | exc _ _ _ => rw [q] at p; exact p.elim
      | ok f s' =>
        rw [q] at p
        intro fv H' al' t st' rf
        have hz := t.fz pa od u upd_same
        have hp' := t.ix hpa
        have key : Dq En fv (upd H' pa u) := p fv _ al' (Tr.unlock hpa h1 nf t) (st'.write hp' (hc0 H' al' od t)) (relF_out (upd_out hp') rf)
        cases fv with
        | nx σ' => exact ⟨hz, key⟩
        | ret v => exact ⟨hz, key⟩
        | bk σ' => exact ⟨hz, key⟩
        | ct σ' => exact ⟨hz, key⟩
    cases e1 : s[n]? with
    | none => simp only [e1] at p; exact p.elim
    | some c =>
      have hn : n < s.length := (List.getElem?_eq_some_iff.mp e1).1
      obtain ⟨pa, hpa⟩ : ∃ pa, al[n]? = some pa := ⟨_, List.getElem?_eq_getElem (by rw [st.len]; exact hn)⟩
      have cell := st.cell n _ _ hpa e1
      simp only [e1] at p
      cases c with
      | dK kvs =>
        obtain ⟨kv, h1, h2, r⟩ := cell
        refine cont pa (.dK kv) (.dK kvs) (.fK kvs) hpa h1 True.intro (fun _ _ z => nomatch z) (fun od => ⟨od, kv, upd_same, h2, r.out (upd_out hpa)⟩) (fun H' al' od t => ⟨kv, upd_same, h2, ((r.out (upd_out hpa)).tr t).out (upd_out (t.ix hpa))⟩) p
      | dT kvs =>
        obtain ⟨kv, h1, h2, r⟩ := cell
        refine cont pa (.dT kv) (.dT kvs) (.fT kvs) hpa h1 True.intro (fun _ _ z => nomatch z) (fun od => ⟨od, kv, upd_same, h2, r.out (upd_out hpa)⟩) (fun H' al' od t => ⟨kv, upd_same, h2, ((r.out (upd_out hpa)).tr t).out (upd_out (t.ix hpa))⟩) p
      | _ => exact p.elim
  · exact p.elim
def whileM (c : MD Bool) (body : MD Fl) : Nat → MD Fl
  | 0, _, _ => .bad
  | n + 1, ρ, s => (c ρ s).bind fun b s => if b = true then (body ρ s).bind fun f s => match f with
      | .nx ρ => whileM c body n ρ s
      | .ct ρ => whileM c body n ρ s
      | .bk ρ => .ok (.nx ρ) s
      | .ret d => .ok (.ret d) s
    else .ok (.nx ρ) s
section
open Classical
noncomputable def sWhile (c : MD Bool) (body : MD Fl) : MD Fl := fun ρ s => if h : ∃ n, whileM c body n ρ s ≠ .bad then whileM c body (choose h) ρ s else .bad
theorem whileM_mono {c : MD Bool} {body : MD Fl} : ∀ (n m : Nat) (ρ : Ro) (s : Sto), whileM c body n ρ s ≠ .bad → n ≤ m → whileM c body m ρ s = whileM c body n ρ s
  | 0, _, _, _, h, _ => absurd rfl h
  | n + 1, 0, _, _, _, h => absurd h (by omega)
  | n + 1, m + 1, ρ, s, h, hl => by
    unfold whileM at h ⊢
    cases e1 : c ρ s with
    | bad => rfl
    | exc _ _ _ => rfl
    | ok b s1 =>
      rw [e1] at h
      simp only [Rs.bind_ok] at h ⊢
      cases b with
      | false => rfl
      | true =>
        simp only [if_true] at h ⊢
        cases e2 : body ρ s1 with
        | bad => rfl
        | exc _ _ _ => rfl
        | ok f s2 =>
          rw [e2] at h
          simp only [Rs.bind_ok] at h ⊢
          cases f with
          | nx ρ2 => exact whileM_mono n m ρ2 s2 h (by omega)
          | ct ρ2 => exact whileM_mono n m ρ2 s2 h (by omega)
          | bk ρ2 => rfl
          | ret d => rfl
theorem sWhile_eq {c : MD Bool} {body : MD Fl} {n : Nat} {ρ : Ro} {s : Sto} {r : Rs Fl} (h : whileM c body n ρ s = r) (hr : r ≠ .bad) : sWhile c body ρ s = r := by
  have hex : ∃ n, whileM c body n ρ s ≠ .bad := ⟨n, by rw [h]; exact hr⟩
  unfold sWhile
  rw [dif_pos hex]
  have h2 := choose_spec hex
  rcases Nat.le_total n (choose hex) with q | q
  · rw [whileM_mono n _ ρ s (by rw [h]; exact hr) q, h]
  · rw [← whileM_mono _ n ρ s h2 q, h]
end
/-- while, at most N turns -/
theorem ms_whileN {c : Expr} {body : List Stmt} {mc : MD Bool} {mb : MD Fl} {pos : Pos} (N : Nat) (hp : PassesOwn (model X.prog X.w) X.A X.env X.xe) (hc : PT X c (TXb g E mc)) (hb : PSs X body (TSx g E mb)) : PS X (.While c body [] pos) (TSx g E (whileM mc mb N)) := by
  refine ps_mono (ps_while hp hc hb) fun En σ H ⟨ρ, al, s, er, st, p⟩ => ?_
  refine ⟨fun m σ' H' => ∃ ρ' al' s', EnvR g H' al' σ' ρ' ∧ StOk g H' al' s' ∧ Post g E (relF g) (whileM mc mb m ρ' s') H' al' (Dq En), ⟨_, ρ, al, s, er, st, p⟩, ?_⟩
  rintro m σ' H' ⟨ρ', al', s', er', st', p'⟩
  cases m with
  | zero => exact p'.elim
  | succ m =>
    refine ⟨ρ', al', s', er', st', Post.bind p' fun b s1 v H1 al1 _ t st1 rp p1 => ?_⟩
    have rp' : v = b := rp
    subst rp'
    cases v with
    | false => rw [if_neg Bool.false_ne_true] at p1 ⊢; exact dq_ok (fv := .nx σ') p1 st1 (er'.tr t)
    | true =>
      rw [if_pos rfl] at p1 ⊢
      refine ⟨fun σ3 H3 => ∃ ρ3 al3 s3, EnvR g H3 al3 σ3 ρ3 ∧ StOk g H3 al3 s3 ∧ Post g E (relF g) (whileM mc mb m ρ3 s3) H3 al3 (Dq En), fun σ3 H3 q => ⟨m, Nat.lt_succ_self m, q⟩, ρ', al1, s1, er'.tr t, st1, Post.bind p1 fun f s5 fv H5 al5 _ t5 st5 rf p5 => ?_⟩
      cases f <;> cases fv <;> first | exact rf.elim | skip
      · exact ⟨_, al5, s5, rf, st5, p5⟩
      · exact (show Dq En (.ret _) H5 from dq_ok (fv := .ret _) p5 st5 rf)
      · exact (show Dq En (.nx _) H5 from dq_ok (fv := .nx _) p5 st5 rf)
      · exact ⟨_, al5, s5, rf, st5, p5⟩
theorem ms_while {c : Expr} {body : List Stmt} {mc : MD Bool} {mb : MD Fl} {pos : Pos} (hp : PassesOwn (model X.prog X.w) X.A X.env X.xe) (hc : PT X c (TXb g E mc)) (hb : PSs X body (TSx g E mb)) : PS X (.While c body [] pos) (TSx g E (sWhile mc mb)) := by
  refine ps_mono (ps_while hp hc hb) fun En σ H ⟨ρ, al, s, er, st, p⟩ => ?_
  unfold sWhile at p
  by_cases hex : ∃ n, whileM mc mb n ρ s ≠ .bad
  · rw [dif_pos hex] at p
    refine ⟨fun m σ' H' => ∃ ρ' al' s', EnvR g H' al' σ' ρ' ∧ StOk g H' al' s' ∧ Post g E (relF g) (whileM mc mb m ρ' s') H' al' (Dq En), ⟨_, ρ, al, s, er, st, p⟩, ?_⟩
    rintro m σ' H' ⟨ρ', al', s', er', st', p'⟩
    cases m with
    | zero => exact p'.elim
    | succ m =>
      refine ⟨ρ', al', s', er', st', Post.bind p' fun b s1 v H1 al1 _ t st1 rp p1 => ?_⟩
      have rp' : v = b := rp
      subst rp'
      cases v with
      | false => rw [if_neg Bool.false_ne_true] at p1 ⊢; exact dq_ok (fv := .nx σ') p1 st1 (er'.tr t)
      | true =>
        rw [if_pos rfl] at p1 ⊢
        refine ⟨fun σ3 H3 => ∃ ρ3 al3 s3, EnvR g H3 al3 σ3 ρ3 ∧ StOk g H3 al3 s3 ∧ Post g E (relF g) (whileM mc mb m ρ3 s3) H3 al3 (Dq En), fun σ3 H3 q => ⟨m, Nat.lt_succ_self m, q⟩, ρ', al1, s1, er'.tr t, st1, Post.bind p1 fun f s5 fv H5 al5 _ t5 st5 rf p5 => ?_⟩
        cases f <;> cases fv <;> first | exact rf.elim | skip
        · exact ⟨_, al5, s5, rf, st5, p5⟩
        · exact (show Dq En (.ret _) H5 from dq_ok (fv := .ret _) p5 st5 rf)
        · exact (show Dq En (.nx _) H5 from dq_ok (fv := .nx _) p5 st5 rf)
        · exact ⟨_, al5, s5, rf, st5, p5⟩
  · rw [dif_neg hex] at p; exact p.elim
def noEx {γ : Type} (r : Rs γ) : Rs γ := match r with
  | .exc _ _ _ => .bad
  | r => r
@[simp] theorem noEx_ok {γ : Type} {x : γ} {s : Sto} : noEx (.ok x s) = .ok x s := rfl
@[simp] theorem noEx_bad {γ : Type} : noEx (.bad : Rs γ) = .bad := rfl
section
def lcM (mt : D → MD Ro) (tt : MD Bool) (te : MD D) (gd : Sto → Bool) : List D → MD (List D)
  | [], _, s => if gd s then .ok [] s else .bad
  | d :: ds, ρ, s => if gd s then (noEx (mt d ρ s)).bind fun ρ2 s => (noEx (tt ρ2 s)).bind fun b s => if b = true then (noEx (te ρ2 s)).bind fun y s => (lcM mt tt te gd ds ρ s).bind fun ys s => .ok (y :: ys) s else lcM mt tt te gd ds ρ s
    else .bad
end
def lcEnd (c : Bool) (ds : List D) (s : Sto) : Rs D := if ds.length ≤ sizeLine then newL c ds s else .bad
def mLc (c : Bool) (vs : List Nat) (src : MD Src) (mt : D → MD Ro) (tt : MD Bool) (te : MD D) : MD D := fun ρ s => (src ρ s).bind fun k s => (lcM mt tt te k.guard k.items (wipeD ρ vs) s).bind (lcEnd c)
theorem post_noEx {β γ δ ε : Type} {g2 : G} {rel : Hp → List Addr → β → γ → Prop} {rel2 : Hp → List Addr → δ → ε → Prop} {r : Rs γ} {k : γ → Sto → Rs ε} {Q : β → Hp → Prop} {Q2 : δ → Hp → Prop} {H0 : Hp} {al0 : List Addr}
    (h : Post g2 E rel2 ((noEx r).bind k) H0 al0 Q2) (hk : ∀ d s1 v H1 al1, r = .ok d s1 → Tr g al H al1 H1 → StOk g H1 al1 s1 → rel H1 al1 v d → Post g2 E rel2 (k d s1) H0 al0 Q2 → Q v H1) : Post g E0 rel r H al Q := by
  cases r with
  | bad => exact h
  | ok d s => exact fun v H' al' u st rp => hk d s v H' al' rfl u st rp h
  | exc c ds s => exact h.elim
theorem bind_assoc {γ δ ε : Type} {r : Rs γ} {k : γ → Sto → Rs δ} {l : δ → Sto → Rs ε} : (r.bind k).bind l = r.bind fun x s => (k x s).bind l := by
  cases r <;> rfl
theorem lcEnd_cons {c : Bool} {acc : List D} {y : D} {r : Rs (List D)} : (r.bind fun ys s => Rs.ok (y :: ys) s).bind (fun ys s => lcEnd c (acc ++ ys) s) = r.bind fun ys s => lcEnd c (acc ++ [y] ++ ys) s := by
  cases r <;> simp
theorem lcM_noexc {mt : D → MD Ro} {tt : MD Bool} {te : MD D} {gd : Sto → Bool} : ∀ (ds : List D) (ρ : Ro) (s : Sto) (c : Nat) (es : List D) (s' : Sto), lcM mt tt te gd ds ρ s ≠ .exc c es s'
  | [], ρ, s, c, es, s', h => by
    by_cases q : gd s
    · rw [lcM, if_pos q] at h; cases h
    · rw [lcM, if_neg q] at h; cases h
  | d :: ds, ρ, s, c, es, s', h => by
    by_cases q : gd s
    · rw [lcM, if_pos q] at h
      cases e1 : mt d ρ s with
      | bad => rw [e1] at h; cases h
      | exc _ _ _ => rw [e1] at h; cases h
      | ok ρ2 s2 =>
        rw [e1] at h
        simp only [noEx_ok, Rs.bind_ok] at h
        cases e2 : tt ρ2 s2 with
        | bad => rw [e2] at h; cases h
        | exc _ _ _ => rw [e2] at h; cases h
        | ok b s3 =>
          rw [e2] at h
          simp only [noEx_ok, Rs.bind_ok] at h
          cases b with
          | false => exact lcM_noexc ds ρ s3 c es s' h
          | true =>
            simp only [if_true] at h
            cases e3 : te ρ2 s3 with
            | bad => rw [e3] at h; cases h
            | exc _ _ _ => rw [e3] at h; cases h
            | ok y s4 =>
              rw [e3] at h
              simp only [noEx_ok, Rs.bind_ok] at h
              cases e4 : lcM mt tt te gd ds ρ s4 with
              | bad => rw [e4] at h; cases h
              | exc _ _ _ => exact lcM_noexc ds ρ s4 _ _ _ e4
              | ok ys s5 => rw [e4] at h; cases h
    · rw [lcM, if_neg q] at h; cases h
abbrev G.aside (g : G) (p : Addr) : G := g.wF (p :: g.F)
mutual
theorem Rep.inF {p : Addr} (n : H p = none) : ∀ {v : V} {d : D}, Rep g H al v d → Rep (g.aside p) H al v d
  | _, _, .non => .non
  | _, _, .bl b => .bl b
  | _, _, .int i => .int i
  | _, _, .str x => .str x
  | _, _, .ref h => .ref h
  | _, _, .tupH h o r => .tupH h ⟨o.1, fun m => (List.mem_cons.mp m).elim (fun e => ne_of_none h n e) o.2⟩ (Reps.inF n r)
  | _, _, .tupK q h r => .tupK q h (Reps.inF n r)
  | _, _, .frzK h r => .frzK h (Reps.inF n r)
  | _, _, .lst h o r => .lst h ⟨o.1, fun m => (List.mem_cons.mp m).elim (fun e => ne_of_none h n e) o.2⟩ (Reps.inF n r)
  | _, _, .twn h o r => .twn h ⟨o.1, fun m => (List.mem_cons.mp m).elim (fun e => ne_of_none h n e) o.2⟩ (Reps.inF n r)
  | _, _, .frz h o r => .frz h ⟨o.1, fun m => (List.mem_cons.mp m).elim (fun e => ne_of_none h n e) o.2⟩ (Reps.inF n r)
  | _, _, .obj h o l r => .obj h ⟨o.1, fun m => (List.mem_cons.mp m).elim (fun e => ne_of_none h n e) o.2⟩ l (Reps.inF n r)
  | _, _, .exv0 h o => .exv0 h ⟨o.1, fun m => (List.mem_cons.mp m).elim (fun e => ne_of_none h n e) o.2⟩
  | _, _, .exv1 h o hx ox l r => .exv1 h ⟨o.1, fun m => (List.mem_cons.mp m).elim (fun e => ne_of_none h n e) o.2⟩ hx ⟨ox.1, fun m => (List.mem_cons.mp m).elim (fun e => ne_of_none hx n e) ox.2⟩ l (Reps.inF n r)
theorem Reps.inF {p : Addr} (n : H p = none) : ∀ {vs : List V} {ds : List D}, Reps g H al vs ds → Reps (g.aside p) H al vs ds
  | _, _, .nil => .nil
  | _, _, .cons h r => .cons (Rep.inF n h) (Reps.inF n r)
end
theorem Out.unF {p a : Addr} (o : Out (g.aside p) al a) : Out g al a := ⟨o.1, fun m => o.2 (List.mem_cons_of_mem _ m)⟩
theorem Out.toCell {p a : Addr} (o : Out (g.aside p) al a) : Out g (al ++ [p]) a := ⟨fun m => (List.mem_append.mp m).elim o.1 fun z => o.2 (by simp at z; rw [z]; exact List.mem_cons_self), fun m => o.2 (List.mem_cons_of_mem _ m)⟩
mutual
theorem Rep.unF {p : Addr} : ∀ {v : V} {d : D}, Rep (g.aside p) H al v d → Rep g H al v d
  | _, _, .non => .non
  | _, _, .bl b => .bl b
  | _, _, .int i => .int i
  | _, _, .str x => .str x
  | _, _, .ref h => .ref h
  | _, _, .tupH h o r => .tupH h o.unF (Reps.unF r)
  | _, _, .tupK q h r => .tupK q h (Reps.unF r)
  | _, _, .frzK h r => .frzK h (Reps.unF r)
  | _, _, .lst h o r => .lst h o.unF (Reps.unF r)
  | _, _, .twn h o r => .twn h o.unF (Reps.unF r)
  | _, _, .frz h o r => .frz h o.unF (Reps.unF r)
  | _, _, .obj h o l r => .obj h o.unF l (Reps.unF r)
  | _, _, .exv0 h o => .exv0 h o.unF
  | _, _, .exv1 h o hx ox l r => .exv1 h o.unF hx ox.unF l (Reps.unF r)
theorem Reps.unF {p : Addr} : ∀ {vs : List V} {ds : List D}, Reps (g.aside p) H al vs ds → Reps g H al vs ds
  | _, _, .nil => .nil
  | _, _, .cons h r => .cons (Rep.unF h) (Reps.unF r)
end
mutual
theorem Rep.toCell {p : Addr} : ∀ {v : V} {d : D}, Rep (g.aside p) H al v d → Rep g H (al ++ [p]) v d
  | _, _, .non => .non
  | _, _, .bl b => .bl b
  | _, _, .int i => .int i
  | _, _, .str x => .str x
  | _, _, .ref h => .ref (by rw [List.getElem?_append_left (List.getElem?_eq_some_iff.mp h).1]; exact h)
  | _, _, .tupH h o r => .tupH h o.toCell (Reps.toCell r)
  | _, _, .tupK q h r => .tupK q h (Reps.toCell r)
  | _, _, .frzK h r => .frzK h (Reps.toCell r)
  | _, _, .lst h o r => .lst h o.toCell (Reps.toCell r)
  | _, _, .twn h o r => .twn h o.toCell (Reps.toCell r)
  | _, _, .frz h o r => .frz h o.toCell (Reps.toCell r)
  | _, _, .obj h o l r => .obj h o.toCell l (Reps.toCell r)
  | _, _, .exv0 h o => .exv0 h o.toCell
  | _, _, .exv1 h o hx ox l r => .exv1 h o.toCell hx ox.toCell l (Reps.toCell r)
theorem Reps.toCell {p : Addr} : ∀ {vs : List V} {ds : List D}, Reps (g.aside p) H al vs ds → Reps g H (al ++ [p]) vs ds
  | _, _, .nil => .nil
  | _, _, .cons h r => .cons (Rep.toCell h) (Reps.toCell r)
end
theorem CellOk.mapR {g' : G} {H' : Hp} {al' : List Addr} {p : Addr} {c : Cell} (hca : g'.ca = g.ca) (hcf : g'.cf = g.cf) (f : ∀ vs ds, Reps g H al vs ds → Reps g' H' al' vs ds) (k : ∀ o, H p = Option.some o → H' p = Option.some o) (h : CellOk g H al p c) : CellOk g' H' al' p c := by
  cases c with
  | lst ds => obtain ⟨vs, e, r⟩ := h; exact ⟨vs, k _ e, f _ _ r⟩
  | dK ds => obtain ⟨vs, e, e', r⟩ := h; exact ⟨vs, k _ e, e', f _ _ r⟩
  | dT ds => obtain ⟨vs, e, e', r⟩ := h; exact ⟨vs, k _ e, e', f _ _ r⟩
  | obj c ds => obtain ⟨dx, vs, e, l, r⟩ := h; exact ⟨dx, vs, by rw [hca, hcf]; exact k _ e, by rw [hcf]; exact l, f _ _ r⟩
  | fK ds => obtain ⟨o, vs, e, e', r⟩ := h; exact ⟨o, vs, k _ e, e', f _ _ r⟩
  | fT ds => obtain ⟨o, vs, e, e', r⟩ := h; exact ⟨o, vs, k _ e, e', f _ _ r⟩
theorem EnvR.inF {p : Addr} (n : H p = none) (e : EnvR g H al σ ρ) : EnvR (g.aside p) H al σ ρ := ⟨e.1, fun i d h => let ⟨v, h1, h2⟩ := e.2 i d h; ⟨v, h1, h2.inF n⟩⟩
theorem Tr.inF {p : Addr} (t : Tr g al H al' H') (n : p ∉ al') : Tr (g.aside p) al H al' H' := by
  obtain ⟨be, e, f1, f2⟩ := t.ex
  refine ⟨⟨be, e, f1, fun a m z => ?_⟩, t.keep, t.dom, t.fz⟩
  rcases List.mem_cons.mp z with z | z
  · exact n (by rw [e, ← z]; exact List.mem_append_right _ m)
  · exact f2 a m z
theorem Tr.unF {p : Addr} (t : Tr (g.aside p) al H al' H') : Tr g al H al' H' := by
  obtain ⟨be, e, f1, f2⟩ := t.ex
  exact ⟨⟨be, e, f1, fun a m z => f2 a m (List.mem_cons_of_mem _ z)⟩, t.keep, t.dom, t.fz⟩
theorem Tr.updNew {p : Addr} {o : HO} (t : Tr g al H al' H') (n : H p = none) : Tr g al H al' (upd H' p o) := by
  refine ⟨t.ex, fun a u na e => ?_, fun a e => ?_, fun a o u e => by rw [upd_ne (ne_of_none e n)]; exact t.fz a o u e⟩
  · rw [upd_ne (ne_of_none e n)]; exact t.keep a u na e
  · have nz : a ≠ p := fun z => e (by rw [z]; exact n)
    rw [upd_ne nz]; exact t.dom a e
/-- a list laid aside -/
theorem StOk.aside {p : Addr} {o : HO} (st : StOk g H al s) (n : H p = none) (nt0 : ∀ xs, o ≠ .tup xs) : StOk (g.aside p) (upd H p o) al s := by
  have t : Tr (g.aside p) al H al (upd H p o) := .same (upd_new n)
  refine ⟨st.len, st.nd, fun a m => ?_, fun a m z => ?_, fun k q c e1 e2 => ?_⟩
  · rcases List.mem_cons.mp m with e | m
    · exact ⟨o, by rw [e]; exact upd_same, nt0⟩
    · obtain ⟨u, e, nt⟩ := st.fs a m
      exact ⟨u, upd_new n _ _ e, nt⟩
  · rcases List.mem_cons.mp z with e | z
    · exact (st.notin n).1 (by rw [← e]; exact m)
    · exact st.apart a m z
  · exact CellOk.mapR (g := g) (g' := g.aside p) rfl rfl (fun vs ds r => Reps.tr t (Reps.inF (g := g) n r)) (fun u e => upd_new n _ _ e) (st.cell k q c e1 e2)
/-- what is left aside is written -/
theorem Out.nep {p a : Addr} (o : Out (g.aside p) al a) : a ≠ p := fun z => o.2 (by rw [z]; exact List.mem_cons_self)
mutual
theorem Rep.wk {p : Addr} {u : HO} : ∀ {v : V} {d : D}, Rep (g.aside p) H al v d → Rep (g.aside p) (upd H p u) al v d
  | _, _, .non => .non
  | _, _, .bl b => .bl b
  | _, _, .int i => .int i
  | _, _, .str x => .str x
  | _, _, .ref h => .ref h
  | _, _, .tupH h o r => .tupH ((upd_ne o.nep).trans h) o (Reps.wk r)
  | _, _, .tupK q h r => .tupK q h (Reps.wk r)
  | _, _, .frzK h r => .frzK h (Reps.wk r)
  | _, _, .lst h o r => .lst ((upd_ne o.nep).trans h) o (Reps.wk r)
  | _, _, .twn h o r => .twn ((upd_ne o.nep).trans h) o (Reps.wk r)
  | _, _, .frz h o r => .frz ((upd_ne o.nep).trans h) o (Reps.wk r)
  | _, _, .obj h o l r => .obj ((upd_ne o.nep).trans h) o l (Reps.wk r)
  | _, _, .exv0 h o => .exv0 ((upd_ne o.nep).trans h) o
  | _, _, .exv1 h o hx ox l r => .exv1 ((upd_ne o.nep).trans h) o ((upd_ne ox.nep).trans hx) ox l (Reps.wk r)
theorem Reps.wk {p : Addr} {u : HO} : ∀ {vs : List V} {ds : List D}, Reps (g.aside p) H al vs ds → Reps (g.aside p) (upd H p u) al vs ds
  | _, _, .nil => .nil
  | _, _, .cons h r => .cons (Rep.wk h) (Reps.wk r)
end
theorem EnvR.wk {p : Addr} {u : HO} (e : EnvR (g.aside p) H al σ ρ) : EnvR (g.aside p) (upd H p u) al σ ρ := ⟨e.1, fun i d h => let ⟨v, h1, h2⟩ := e.2 i d h; ⟨v, h1, h2.wk⟩⟩
theorem StOk.wk {p : Addr} {o : HO} (st : StOk (g.aside p) H al s) (nt0 : ∀ xs, o ≠ .tup xs) : StOk (g.aside p) (upd H p o) al s := by
  refine ⟨st.len, st.nd, fun a m => ?_, st.apart, fun k q c e1 e2 => ?_⟩
  · by_cases q : a = p
    · exact ⟨o, by rw [q]; exact upd_same, nt0⟩
    · obtain ⟨u, e, nt⟩ := st.fs a m
      exact ⟨u, by rw [upd_ne q]; exact e, nt⟩
  · have nq : q ≠ p := fun z => st.apart q (List.mem_of_getElem? e1) (by rw [z]; exact List.mem_cons_self)
    exact CellOk.mapR (g := g.aside p) (g' := g.aside p) rfl rfl (fun _ _ r => Reps.wk r) (fun u e => (upd_ne nq).trans e) (st.cell k q c e1 e2)
theorem StOk.unF {p : Addr} (st : StOk (g.aside p) H al s) : StOk g H al s :=
  ⟨st.len, st.nd, fun a m => st.fs a (List.mem_cons_of_mem _ m), fun a m z => st.apart a m (List.mem_cons_of_mem _ z), fun k q c e1 e2 => CellOk.mapR (g := g.aside p) rfl rfl (fun _ _ r => Reps.unF r) (fun u e => e) (st.cell k q c e1 e2)⟩
theorem StOk.toCell {p : Addr} {vs : List V} {ds : List D} (st : StOk (g.aside p) H al s) (np : p ∉ g.F) (hp : H p = some (.lst vs)) (rs : Reps (g.aside p) H al vs ds) : StOk g H (al ++ [p]) (s ++ [.lst ds]) := by
  have na : p ∉ al := fun m => st.apart p m List.mem_cons_self
  refine ⟨by simp [st.len], List.nodup_append.mpr ⟨st.nd, by simp, fun a ha b hb e => by simp at hb; subst hb; subst e; exact na ha⟩, fun a m => st.fs a (List.mem_cons_of_mem _ m), fun a m => ?_, fun m q d e1 e2 => ?_⟩
  · rcases List.mem_append.mp m with m | m
    · exact fun z => st.apart a m (List.mem_cons_of_mem _ z)
    · simp at m; subst m; exact np
  · by_cases hm : m < al.length
    · rw [List.getElem?_append_left hm] at e1
      rw [List.getElem?_append_left (by rw [← st.len]; exact hm)] at e2
      exact CellOk.mapR (g := g.aside p) rfl rfl (fun _ _ r => Reps.toCell r) (fun u e => e) (st.cell m q d e1 e2)
    · have hm' : m = al.length := by
        have := (List.getElem?_eq_some_iff.mp e1).1
        simp at this; omega
      subst hm'
      have e1' : p = q := by simpa using e1
      have e2' : Cell.lst ds = d := by rw [st.len] at e2; simpa using e2
      subst e1'; subst e2'
      exact ⟨vs, hp, rs.toCell⟩
/-- whatever is left aside -/
def anyF {β : Type} (t : List Addr → St → Hp → (β → Hp → Prop) → Prop) : St → Hp → (β → Hp → Prop) → Prop := fun σ H Q => ∃ F, t F σ H Q
def tgA (g : G) (E : XK) (vs : List Nat) (mt : D → MD Ro) : L2.TG := fun v σ H Q => ∃ F, tgR (g.wF F) E vs mt v σ H Q
theorem tx_lc {src : MD Src} {vs : List Nat} {mt : D → MD Ro} {tt : MD Bool} {te : MD D} {c : Bool} {Q : VK} (h : TX g E (mLc c vs src mt tt te) σ H Q) :
    tLc (TIx g E src) (tgA g E0 vs mt) (anyF fun F => TXb (g.wF F) E0 tt) (anyF fun F => TX (g.wF F) E0 te) vs σ H Q := by
  obtain ⟨ρ, al, s, er, st, p⟩ := h
  refine ⟨ρ, al, s, er, st, Post.bind p fun k s1 J H1 al1 _ t st1 gd p1 Dx nD => ?_⟩
  have nDF : Dx ∉ g.F := (st1.notin nD).2
  have t0 : Tr (g.aside Dx) al1 H1 al1 (upd H1 Dx (.lst [])) := .same (upd_new nD)
  have st0 : StOk (g.aside Dx) (upd H1 Dx (.lst [])) al1 s1 := st1.aside nD (fun _ z => nomatch z)
  have erw := (((er.tr t).inF nD).tr t0).wipe vs
  refine ⟨fun i m H' => ∃ al' s' acc accV, EnvR (g.aside Dx) H' al' (L2.wipe σ vs) (wipeD ρ vs) ∧ StOk (g.aside Dx) H' al' s' ∧ Tr g al1 H1 al' H' ∧ H' Dx = some (.lst accV) ∧ Reps (g.aside Dx) H' al' accV acc ∧ i ≤ k.items.length ∧ m = k.items.length - i ∧
      Post g E (Rep g) ((lcM mt tt te k.guard (k.items.drop i) (wipeD ρ vs) s').bind fun ys s => lcEnd c (acc ++ ys) s) H1 al1 Q,
    ⟨k.items.length, al1, s1, [], [], erw, st0, t0.unF, upd_same, .nil, Nat.zero_le _, rfl, p1⟩, ?_⟩
  rintro i m H' ⟨al', s', acc, accV, er', st', t', hD, ra, hi', rfl, p'⟩
  have na : Dx ∉ al' := fun m => st'.apart Dx m List.mem_cons_self
  have good := gd (Dx :: g.F) H' al' s' (fun _ _ r => Rep.tr (t'.inF na) (Rep.inF nD r)) t'.fz st'
  by_cases hlt : i < k.items.length
  · have hd : k.items[i]? = some k.items[i] := by simp [hlt]
    rw [drop_cons hd] at p'
    by_cases hgd : k.guard s'
    · rw [lcM, if_pos hgd, bind_assoc] at p'
      obtain ⟨g1, g2, g3⟩ := good hgd
      refine .inr ⟨g1 i hlt, fun H3 => ∃ al3 s3 acc3 accV3, EnvR (g.aside Dx) H3 al3 (L2.wipe σ vs) (wipeD ρ vs) ∧ StOk (g.aside Dx) H3 al3 s3 ∧ Tr g al1 H1 al3 H3 ∧ H3 Dx = some (.lst accV3) ∧ Reps (g.aside Dx) H3 al3 accV3 acc3 ∧
          Post g E (Rep g) ((lcM mt tt te k.guard (k.items.drop (i + 1)) (wipeD ρ vs) s3).bind fun ys s => lcEnd c (acc3 ++ ys) s) H1 al1 Q, ?_, fun x H2 hy => ?_⟩
      · rintro H3 ⟨al3, s3, acc3, accV3, q1, q2, q3, q4, q6, q7⟩
        exact ⟨k.items.length - (i + 1), by omega, al3, s3, acc3, accV3, q1, q2, q3, q4, q6, hlt, rfl, q7⟩
      · obtain ⟨t2, st2, d, e1, rp⟩ := g3 i x H2 hlt hy
        rw [hd] at e1; cases e1
        refine ⟨Dx :: g.F, _, wipeD ρ vs, al', s', rp, er'.tr t2, st2, post_noEx (g := g.aside Dx) p' fun ρ4 s4 σ4 H4 al4 _ t4 st4 er4 p4 hw => ?_⟩
        rw [bind_assoc] at p4
        refine ⟨by rw [hw]; exact (by apply List.ext_getElem?; intro j; rw [wipe_get, wipe_get]; by_cases m : j ∈ vs <;> simp [m, Function.comp_def]), Dx :: g.F, ρ4, al4, s4, er4, st4, post_noEx (g := g.aside Dx) p4 fun b s5 v H5 al5 _ t5 st5 rb p5 => ?_⟩
        have rb' : v = b := rb
        subst rb'
        have t25 : Tr (g.aside Dx) al' H' al5 H5 := (t2.trans t4).trans t5
        cases v with
        | false =>
          rw [if_neg Bool.false_ne_true] at p5 ⊢
          exact ⟨al5, s5, acc, accV, er'.tr t25, st5, t'.trans t25.unF, t25.keep _ _ na hD, ra.tr t25, p5⟩
        | true =>
          rw [if_pos rfl] at p5 ⊢
          rw [bind_assoc] at p5
          refine ⟨Dx :: g.F, ρ4, al5, s5, er4.tr t5, st5, post_noEx (g := g.aside Dx) p5 fun y s6 w H6 al6 _ t6 st6 ry p6 => ?_⟩
          have t26 : Tr (g.aside Dx) al' H' al6 H6 := t25.trans t6
          have hD6 : H6 Dx = some (.lst accV) := t26.keep _ _ na hD
          have ra6 := ra.tr t26
          rw [lcEnd_cons] at p6
          have hsz : acc.length < sizeLine := by
            cases q : lcM mt tt te k.guard (k.items.drop (i + 1)) (wipeD ρ vs) s6 with
            | bad => rw [q] at p6; exact p6.elim
            | exc _ _ _ => exact absurd q (lcM_noexc _ _ _ _ _ _)
            | ok ys s7 =>
              rw [q] at p6
              unfold lcEnd at p6
              simp only [Rs.bind_ok] at p6
              by_cases z : (acc ++ [y] ++ ys).length ≤ sizeLine
              · simp only [List.length_append, List.length_cons, List.length_nil] at z; omega
              · rw [if_neg z] at p6; exact p6.elim
          exact ⟨accV, hD6, by rw [ra6.length]; exact hsz, al6, s6, acc ++ [y], accV ++ [w], (er'.tr t26).wk, st6.wk (fun _ z => nomatch z), (t'.trans t26.unF).updNew nD, upd_same, (ra6.append (.cons ry .nil)).wk, p6⟩
    · rw [lcM, if_neg hgd] at p'; exact p'.elim
  · have e : i = k.items.length := by omega
    subst e
    rw [List.drop_length] at p'
    by_cases hgd : k.guard s'
    · rw [lcM, if_pos hgd, Rs.bind_ok, List.append_nil] at p'
      obtain ⟨g1, g2, g3⟩ := good hgd
      refine .inl ⟨g2, ?_⟩
      unfold lcEnd at p'
      by_cases z : acc.length ≤ sizeLine
      · rw [if_pos z] at p'
        cases c with
        | false => exact p' _ H' al' t' st'.unF (.lst hD ⟨na, nDF⟩ ra.unF)
        | true =>
          have st2 := st'.toCell nDF hD ra
          refine p' (.ref Dx) H' (al' ++ [Dx]) ⟨?_, t'.keep, t'.dom, t'.fz⟩ st2 (.ref (by rw [← st'.len]; simp))
          obtain ⟨be, e, f1, f2⟩ := t'.ex
          refine ⟨be ++ [Dx], by rw [e]; simp, fun a m => ?_, fun a m => ?_⟩
          · rcases List.mem_append.mp m with m | m
            · exact f1 a m
            · simp at m; subst m; exact nD
          · rcases List.mem_append.mp m with m | m
            · exact f2 a m
            · simp at m; subst m; exact nDF
      · rw [if_neg z] at p'; exact p'.elim
    · rw [lcM, if_neg hgd] at p'; exact p'.elim
end Mx
namespace Mx
open PySem L2 RZ RT
variable {g : G} {E : XK} {X : Cx} {H : Hp} {al : List Addr} {s : Sto} {σ : St} {ρ : Ro}
section
variable {elt tg iter : Expr} {ifs : List Expr} {scope : Scope} {own : List (Str × Nat)} {pos : Pos} {src : MD Src} {mt : D → MD Ro} {tt : MD Bool} {te : MD D} {c : Bool}
theorem PG.anyF {vs : List Nat} {X : Cx} (h : ∀ F, PG X tg (tgR (g.wF F) E0 vs mt)) : PG X tg (tgA g E0 vs mt) := ⟨fun pins s σ H v u Q I r ⟨F, q⟩ => (h F).run pins s σ H v u Q I r q⟩
theorem PE.anyF {X : Cx} (h : ∀ F, PE X elt (TX (g.wF F) E0 te)) : PE X elt (anyF fun F => TX (g.wF F) E0 te) := ⟨fun pins s σ H Q I ⟨F, q⟩ => (h F).run pins s σ H Q I q⟩
theorem PTs.anyF {X : Cx} (h : ∀ F, PTs X ifs (TXb (g.wF F) E0 tt)) : PTs X ifs (anyF fun F => TXb (g.wF F) E0 tt) := ⟨fun pins s σ H Q I ⟨F, q⟩ => (h F).run pins s σ H Q I q⟩
theorem me_lc (hc : X.calm = true) (hN : X.N.Nodup) (hi : PI X tg iter (TIx g E src)) (ok : BlkOk X.N X.env.scope scope own)
    (hg : ∀ (s : Shared) (H : Hp) (C : Addr) (cl : List (Str × Addr)) (fp : List Addr) (F : List Addr), PG (X.blk s H scope (compEnvC scope cl C X.env) fp) tg (tgR (g.wF F) E0 (own.map (·.2)) mt))
    (ht : ∀ (s : Shared) (H : Hp) (C : Addr) (cl : List (Str × Addr)) (fp : List Addr) (F : List Addr), PTs (X.blk s H scope (compEnvC scope cl C X.env) fp) ifs (TXb (g.wF F) E0 tt))
    (he : ∀ (s : Shared) (H : Hp) (C : Addr) (cl : List (Str × Addr)) (fp : List Addr) (F : List Addr), PE (X.blk s H scope (compEnvC scope cl C X.env) fp) elt (TX (g.wF F) E0 te)) (hs : ∀ x, foldedSetIterable iter X.env x = pure x) :
    PE X (.ListComp elt [⟨tg, iter, ifs, 0⟩] scope pos) (TX g E (mLc c (own.map (·.2)) src mt tt te)) :=
  pe_mono (pe_lc hc hN hi ok (fun s H C cl fp => PG.anyF fun F => hg s H C cl fp F) (fun s H C cl fp => PTs.anyF fun F => ht s H C cl fp F) (fun s H C cl fp => PE.anyF fun F => he s H C cl fp F) hs) fun σ H Q h => tx_lc h
theorem ms_setLc {i : Nat} {y : Str} {py spos : Pos} (hc : X.calm = true) (hN : X.N.Nodup) (hy : X.N[i]? = some y) (hyl : X.env.scope.names.lookup y = some .local) (hk : X.env.scope.kind = .function) (hl : (py.line == pos.line) = true)
    (ha : (scope.names.any fun (n, k) => n == y && (k == .local || k == .cell)) = false) (hi : PI X tg iter (TIx g E src)) (ok : BlkOk X.N X.env.scope scope own)
    (hg : ∀ (s : Shared) (H : Hp) (C : Addr) (cl : List (Str × Addr)) (fp : List Addr) (F : List Addr), PG (X.blk s H scope (compEnvC scope cl C X.env) fp) tg (tgR (g.wF F) E0 (own.map (·.2)) mt))
    (ht : ∀ (s : Shared) (H : Hp) (C : Addr) (cl : List (Str × Addr)) (fp : List Addr) (F : List Addr), PTs (X.blk s H scope (compEnvC scope cl C X.env) fp) ifs (TXb (g.wF F) E0 tt))
    (he : ∀ (s : Shared) (H : Hp) (C : Addr) (cl : List (Str × Addr)) (fp : List Addr) (F : List Addr), PE (X.blk s H scope (compEnvC scope cl C X.env) fp) elt (TX (g.wF F) E0 te)) (hs : ∀ x, foldedSetIterable iter X.env x = pure x) :
    PS X (.Assign [.Name y py] (.ListComp elt [⟨tg, iter, ifs, 0⟩] scope pos) spos) (TSx g E (sAsg (mLc c (own.map (·.2)) src mt tt te) (tgName i))) := by
  refine ps_mono (ps_setLc hc hN hy hyl (sw_true hk hyl hl ha) hi ok (fun s H C cl fp => PG.anyF fun F => hg s H C cl fp F) (fun s H C cl fp => PTs.anyF fun F => ht s H C cl fp F) (fun s H C cl fp => PE.anyF fun F => he s H C cl fp F) hs) fun En σ H h => ?_
  obtain ⟨ρ, al, s, er, st, p⟩ := h
  refine tx_lc (g := g) (E := E) (c := c) ⟨ρ, al, s, er, st, Post.bind p fun d s1 v H1 al1 _ t st1 rp p1 => ?_⟩
  exact dq_ok (fv := .nx _) p1 st1 ((er.tr t).set rp)
theorem mts_nil : PTs X [] (TXb g E (fun _ s => .ok true s)) := ⟨fun pins s σ H Q I ⟨ρ, al, s', er, st, p⟩ => pts_nil.run pins s σ H Q I (p true H al .refl st rfl)⟩
theorem mts_one {e : Expr} {m : MD Bool} (h : PT X e (TXb g E m)) : PTs X [e] (TXb g E m) := pts_one h
theorem sw_false {y : Str} {py : Pos} {l : Nat} {env : Env} {gs : List Comprehension} (h : (env.blockKind == .function && env.kindOf y == some .local && py.line == pos.line && !(scope.names.any fun (n, k) => n == y && (k == .local || k == .cell))) = false) :
    swapsWith (.ListComp elt gs scope pos) (some (.Name y py)) l env = pure false := by
  unfold swapsWith
  show (pure (env.blockKind == .function && env.kindOf y == some .local && py.line == pos.line && !(scope.names.any fun (n, k) => n == y && (k == .local || k == .cell))) : Sem Bool) = pure false
  rw [h]
/-- name = [..] where the name is a cell, or stands on another line -/
theorem ms_setLc2 {i : Nat} {y : Str} {py spos : Pos} {m : MD D} {gs : List Comprehension} (hN : X.N.Nodup) (hy : X.N[i]? = some y) (hx : Loc X.env.scope y) (hf : X.fn y = true ∨ X.env.scope.names.lookup y = some .local)
    (h : (X.env.blockKind == .function && X.env.kindOf y == some .local && py.line == pos.line && !(scope.names.any fun (n, k) => n == y && (k == .local || k == .cell))) = false) (he : PE X (.ListComp elt gs scope pos) (TX g E m)) :
    PS X (.Assign [.Name y py] (.ListComp elt gs scope pos) spos) (TSx g E (sAsg m (tgName i))) := by
  refine ps_mono (ps_set hN hy hx he (sw_false h) hf) fun En σ H ⟨ρ, al, s, er, st, p⟩ => ?_
  exact ⟨ρ, al, s, er, st, Post.bind p fun d s1 v H1 al1 _ t st1 rp p1 => dq_ok (fv := .nx _) p1 st1 ((er.tr t).set rp)⟩
end
def augD (neg : Bool) : D → D → Sto → Rs D
  | .int i, .int j, s => .ok (.int (if neg then i - j else i + j)) s
  | _, _, _ => .bad
def sAug (neg : Bool) (i : Nat) (m : MD D) : MD Fl := fun ρ s => (mVar i ρ s).bind fun x s => (m ρ s).bind fun y s => (augD neg x y s).bind fun z s => .ok (.nx (ρ.set i (some z))) s
section
variable {i : Nat} {x : Str} {e : Expr} {m : MD D} {pos pos' : Pos}
theorem tx_aug {neg : Bool} {ti : TIp} (hti : ∀ a b H Q, Q (.int (if neg then a - b else a + b)) H → ti (.int a) (.int b) H Q) {En : Ends} (h : TSx g E (sAug neg i m) En σ H) : tAug i (TX g E m) ti En σ H := by
  obtain ⟨ρ, al, s, er, st, p⟩ := h
  unfold sAug mVar at p
  cases q : ρ[i]? with
  | none => rw [q] at p; exact p.elim
  | some o =>
    rw [q] at p
    cases o with
    | none => exact p.elim
    | some d =>
      obtain ⟨v, h1, h2⟩ := er.2 i d q
      refine ⟨v, h1, ρ, al, s, er, st, Post.bind p fun y s1 w H1 al1 _ t st1 rp p1 => ?_⟩
      cases d <;> cases y <;> first | exact p1.elim | skip
      cases h2.int_inv; cases rp.int_inv
      exact hti _ _ _ _ (dq_ok (fv := .nx _) p1 st1 ((er.tr t).set (.int _)))
theorem ms_augA (hN : X.N.Nodup) (hi : X.N[i]? = some x) (hx : Loc X.env.scope x) (hf : X.fn x = true ∨ X.env.scope.names.lookup x = some .local) (he : PE X e (TX g E m)) : PS X (.AugAssign (.Name x pos') .Add e pos) (TSx g E (sAug false i m)) :=
  ps_mono (ps_aug hN hi hx he ip_add hf) fun En σ H h => tx_aug (neg := false) (fun a b H Q q => ⟨a, b, rfl, rfl, q⟩) h
theorem ms_augS (hN : X.N.Nodup) (hi : X.N[i]? = some x) (hx : Loc X.env.scope x) (hf : X.fn x = true ∨ X.env.scope.names.lookup x = some .local) (he : PE X e (TX g E m)) : PS X (.AugAssign (.Name x pos') .Sub e pos) (TSx g E (sAug true i m)) :=
  ps_mono (ps_aug hN hi hx he ip_sub hf) fun En σ H h => tx_aug (neg := true) (fun a b H Q q => ⟨a, b, rfl, rfl, q⟩) h
end
def sPar (i j : Nat) (ms : MD (List D)) : MD Fl := fun ρ s => (ms ρ s).bind fun ds s => match ds with
  | [d, e] => .ok (.nx ((ρ.set i (some d)).set j (some e))) s
  | _ => .bad
def parC (sc : Scope) (x y : Str) (px py : Pos) (a b : Expr) : Bool :=
  decide (sc.names.lookup x = some .local) && decide (sc.names.lookup y = some .local) && decide (x ≠ y) && (py.line == px.line) && plainE a && plainE b && !([a, b].all (foldedForSure 8)) && !([a, b].all (constantsAlone 8))
theorem ms_par {i j : Nat} {x y : Str} {a b : Expr} {ms : MD (List D)} {px py pt pos : Pos} {kt k2 : Nat} {pt2 : Pos} (hc : X.calm = true) (hk : X.env.scope.kind = .function) (hN : X.N.Nodup) (hi : X.N[i]? = some x) (hj : X.N[j]? = some y) (hij : i ≠ j) (hp : parC X.env.scope x y px py a b = true)
    (ha : PA X [a, b] (TXs g E ms)) : PS X (.Assign [.Tuple [.Name x px, .Name y py] kt pt] (.Tuple [a, b] k2 pt2) pos) (TSx g E (sPar i j ms)) := by
  unfold parC at hp
  simp only [Bool.and_eq_true, decide_eq_true_eq, Bool.not_eq_true'] at hp
  obtain ⟨⟨⟨⟨⟨⟨⟨hx, hy⟩, hxy⟩, hl⟩, pa⟩, pb⟩, hf⟩, hca⟩ := hp
  have hw : swappedStores [.Tuple [.Name x px, .Name y py] kt pt] (.Tuple [a, b] k2 pt2) X.env = pure (some [x, y]) := by
    have kx : X.env.kindOf x = some .local := hx
    have ky : X.env.kindOf y = some .local := hy
    have hb : X.env.blockKind = .function := by unfold Env.blockKind; rw [hk]; rfl
    have e1 : (x == y) = false := beq_eq_false_iff_ne.mpr hxy
    have e2 : (y == x) = false := beq_eq_false_iff_ne.mpr (Ne.symm hxy)
    have hl' : py.line = px.line := by simpa using hl
    have an : ∀ f : Expr → Bool, f a = false → f b = false → [a, b].any f = false := fun f h1 h2 => by simp [h1, h2]
    have fm : ∀ f : Expr → Option Str, f (.Name x px) = some x → f (.Name y py) = some y → [Expr.Name x px, Expr.Name y py].filterMap f = [x, y] := fun f h1 h2 => by simp [List.filterMap, h1, h2]
    have ed : [x, y].eraseDups = [x, y] := by simp [List.eraseDups, List.eraseDupsBy, List.eraseDupsBy.loop, e1, e2]
    unfold swappedStores
    simp only [hb, hf, hca, List.length_cons, List.length_nil, List.head?_cons, Option.map_some, Option.getD_some, Expr.pos]
    rw [an _ (by cases a <;> first | rfl | cases pa) (by cases b <;> first | rfl | cases pb), fm _ (by simp [kx]) (by simp [ky, hl']), ed]
    simp
  refine ps_mono (ps_par hc hN hi hj hij hx hy ha hw) fun En σ H ⟨ρ, al, s, er, st, p⟩ => ?_
  refine ⟨ρ, al, s, er, st, Post.bind p fun ds s1 vs H1 al1 _ t st1 rs p1 => ?_⟩
  match ds, rs, p1 with
  | [d, e], rs, p1 =>
    obtain ⟨v, w, rfl, r1, r2⟩ := rs.two
    exact ⟨v, w, rfl, dq_ok (fv := .nx _) p1 st1 (((er.tr t).set r1).set r2)⟩
  | [], _, p1 => exact p1.elim
  | [_], _, p1 => exact p1.elim
  | _ :: _ :: _ :: _, _, p1 => exact p1.elim
def setFD (c k : Nat) (d x : D) (s : Sto) : Option Sto := match x with
  | .ref n => match cellO c s[n]? with
    | some ds => if k < ds.length then some (s.set n (.obj c (ds.set k d))) else if k = ds.length then some (s.set n (.obj c (ds ++ [d]))) else none
    | none => none
  | _ => none
def sSetF (c k : Nat) (m mo : MD D) : MD Fl := fun ρ s => (m ρ s).bind fun d s => (mo ρ s).bind fun x s => optS (setFD c k d x s) fun s => .ok (.nx ρ) s
theorem ms_setF {c k : Nat} {o e : Expr} {f : Str} {m mo : MD D} {pos pos' : Pos} (hK : g.K = X.K) (C : ClsOk g c) (hk : (g.cf c)[k]? = some f) (ho : PE X o (TX g E mo)) (he : PE X e (TX g E m)) : PS X (.Assign [.Attribute o f pos'] e pos) (TSx g E (sSetF c k m mo)) := by
  refine ps_mono (ps_fld ho he sw_attr) fun En σ H ⟨ρ, al, s, er, st, p⟩ => ?_
  refine ⟨ρ, al, s, er, st, Post.bind p fun d s1 v H1 al1 hq t st1 rd p1 => ⟨ρ, al1, s1, er.tr t, st1, Post.bind p1 fun x s2 w H2 al2 hq2 t2 st2 rx p2 => ?_⟩⟩
  clear hq hq2
  obtain ⟨s3, e3, p3⟩ := optS_inv p2
  unfold setFD at e3
  cases x <;> first | (cases e3; done) | skip
  rename_i n
  cases ec : cellO c s2[n]? with
  | none => simp only [ec] at e3; cases e3
  | some ds =>
    simp only [ec] at e3
    cases rx with
    | ref hp =>
      obtain ⟨dx, vs, e1, hl, rs⟩ := st2.cell n _ _ hp (cellO_inv ec)
      have few := C.few
      refine ⟨_, g.ca c, dx, _, rfl, e1, by rw [← hK]; exact C.cl, by rw [← hK]; exact C.no f (List.mem_of_getElem? hk), by rw [List.length_zip]; omega, ?_⟩
      have er2 := (er.tr t).tr t2
      have rd2 := rd.tr t2
      by_cases h1 : k < ds.length
      · rw [if_pos h1] at e3; cases e3
        rw [putF_zip_set C.nd hk (by rw [rs.length]; exact h1)]
        have t3 : Tr g al2 H2 al2 (upd H2 _ (.ins (g.ca c) dx ((g.cf c).zip (vs.set k v)))) := .write hp e1 (fun _ _ z => nomatch z)
        exact dq_ok (fv := .nx σ) (p3.tr t3) (st2.write hp ⟨dx, _, upd_same, by rw [List.length_set]; exact hl, (rs.set rd2 k).tr t3⟩) (er2.tr t3)
      · rw [if_neg h1] at e3
        by_cases h2 : k = ds.length
        · rw [if_pos h2] at e3; cases e3
          have hk' : (g.cf c)[vs.length]? = some f := by rw [rs.length, ← h2]; exact hk
          rw [putF_zip_next C.nd hk']
          have t3 : Tr g al2 H2 al2 (upd H2 _ (.ins (g.ca c) dx ((g.cf c).zip (vs ++ [v])))) := .write hp e1 (fun _ _ z => nomatch z)
          have hl2 : vs.length < (g.cf c).length := (List.getElem?_eq_some_iff.mp hk').1
          exact dq_ok (fv := .nx σ) (p3.tr t3) (st2.write hp ⟨dx, _, upd_same, by rw [List.length_append, List.length_singleton]; exact hl2, (rs.append (.cons rd2 .nil)).tr t3⟩) (er2.tr t3)
        · rw [if_neg h2] at e3; cases e3
def setLD (o i d : D) (s : Sto) : Option Sto := match cellAtL o s with
  | some c => match i with
    | .int k => (ixN c.2.length k).map fun j => s.set c.1 (.lst (c.2.set j d))
    | _ => none
  | none => dputS o i d s
theorem pset_or {t t' : TSet} (h : PSet X t) (h' : PSet X t') : PSet X (fun o i v H Q => t o i v H Q ∨ t' o i v H Q) := by
  intro pins s σ H o i v ov iv u Q I r1 r2 r3 q
  rcases q with q | q
  · exact h pins s σ H o i v ov iv u Q I r1 r2 r3 q
  · exact h' pins s σ H o i v ov iv u Q I r1 r2 r3 q
def tgIdx (mo mi : MD D) : D → MD Ro := fun d ρ s => (mo ρ s).bind fun o s => (mi ρ s).bind fun i s => optS (setLD o i d s) fun s => .ok ρ s
theorem mg_idx {vs : List Nat} {o i : Expr} {mo mi : MD D} {pos : Pos} (hu : X.A.units + 64 < cLine) (ho : PE X o (TX g E mo)) (hi : PE X i (TX g E mi)) (hs : noSl i = true) : PG X (.Subscript o i pos) (tgR g E vs (tgIdx mo mi)) := by
  have ha : ∀ v, assign (.Subscript o i pos) X.env v = (do
      let ov ← holding [v] (eval o X.env)
      let iv ← holding [v, ov] (eval i X.env)
      standAt pos
      holding [v, ov, iv] (setItem ov iv v)
      release [v, ov, iv] []) := fun v => by cases i <;> first | rfl | cases hs
  refine pg_mono (pg_sub ho hi (pset_or set_list (set_dict hu)) ha) fun v σ H Q ⟨d, ρ, al, s, rp, er, st, p⟩ => ?_
  refine ⟨ρ, al, s, er, st, Post.bind p fun x s1 w H1 al1 hq t st1 rx p1 => ⟨ρ, al1, s1, er.tr t, st1, Post.bind p1 fun y s2 u H2 al2 hq2 t2 st2 ry p2 => ?_⟩⟩
  clear hq hq2
  obtain ⟨s3, e3, p3⟩ := optS_inv p2
  unfold setLD at e3
  cases ec : cellAtL x s2 with
  | none =>
    simp only [ec] at e3
    obtain ⟨a, H3, ea, dp, t3, st3⟩ := dputS_ok st2 (rx.tr t2) ry ((rp.tr t).tr t2) e3
    exact .inr ⟨a, H3, ea, dp, p3 σ _ al2 t3 st3 (((er.tr t).tr t2).tr t3) rfl⟩
  | some c =>
    obtain ⟨n, ds⟩ := c
    simp only [ec] at e3
    cases y <;> first | (cases e3; done) | skip
    rename_i k
    cases ry.int_inv
    have e3 : (ixN ds.length k).map (fun j => s2.set n (.lst (ds.set j d))) = some s3 := e3
    cases ej : ixN ds.length k with
    | none => rw [ej] at e3; cases e3
    | some j =>
      rw [ej] at e3; cases e3
      obtain ⟨pa, vs', rfl, hp, rfl, e1, rs⟩ := cellAtL_ok st2 (rx.tr t2) ec
      refine .inl ⟨pa, vs', k, j, rfl, rfl, e1, by rw [rs.length]; exact ej, ?_⟩
      have t3 : Tr g al2 H2 al2 (upd H2 pa (.lst (vs'.set j v))) := .write hp e1 (fun _ _ z => nomatch z)
      have rp2 := (rp.tr t).tr t2
      exact p3 σ _ al2 t3 (st2.write hp ⟨_, upd_same, (rs.set rp2 j).tr t3⟩) (((er.tr t).tr t2).tr t3) rfl
def mDNew (k : Bool) : MD D := fun _ s => .ok (.ref s.length) (s ++ [if k then .dT [] else .dK []])
theorem me_dnew {k : Bool} {pos : Pos} : PE X (.Dict [] [] pos) (TX g E (mDNew k)) := by
  cases k with
  | false =>
    refine pe_mono pe_dnewK fun σ H Q ⟨ρ, al, s, er, st, p⟩ pa n => ?_
    have t : Tr g al H (al ++ [pa]) (upd H pa (.dK [])) := .alloc st n
    exact p _ _ _ t (st.alloc n ⟨[], upd_same, rfl, .nil⟩) (.ref (by rw [← st.len]; simp))
  | true =>
    refine pe_mono pe_dnewT fun σ H Q ⟨ρ, al, s, er, st, p⟩ pa n => ?_
    have t : Tr g al H (al ++ [pa]) (upd H pa (.dT [])) := .alloc st n
    exact p _ _ _ t (st.alloc n ⟨[], upd_same, rfl, .nil⟩) (.ref (by rw [← st.len]; simp))
def mPairs : List (MD D × MD D) → MD (List (D × D))
  | [], _, s => .ok [] s
  | (mk, mv) :: r, ρ, s => (mk ρ s).bind fun k s => (mv ρ s).bind fun v s => (mPairs r ρ s).bind fun ps s => .ok ((k, v) :: ps) s
def PRel (g : G) (H : Hp) (al : List Addr) (vs : List (V × V)) (ds : List (D × D)) : Prop := Reps g H al (vs.map (·.1)) (ds.map (·.1)) ∧ Reps g H al (vs.map (·.2)) (ds.map (·.2))
theorem tp_ok : ∀ (ms : List (MD D × MD D)) {σ : St} {ρ : Ro} {H : Hp} {al : List Addr} {s : Sto} {Q : List (V × V) → Hp → Prop}, EnvR g H al σ ρ → StOk g H al s → Post g E (PRel g) (mPairs ms ρ s) H al Q → tPairs (ms.map fun m => (TX g E m.1, TX g E m.2)) σ H Q
  | [], σ, ρ, H, al, s, Q, er, st, p => p _ _ _ .refl st ⟨.nil, .nil⟩
  | (mk, mv) :: ms, σ, ρ, H, al, s, Q, er, st, p => by
    show TX g E mk σ H _
    refine ⟨ρ, al, s, er, st, Post.bind p fun k s1 x H1 al1 _ t1 st1 r1 p1 => ?_⟩
    refine ⟨ρ, al1, s1, er.tr t1, st1, Post.bind p1 fun v s2 y H2 al2 _ t2 st2 r2 p2 => ?_⟩
    exact tp_ok ms ((er.tr t1).tr t2) st2 (Post.bind p2 fun ps s3 vs H3 al3 _ t3 st3 r3 p3 => p3 _ _ _ .refl st3 ⟨.cons ((r1.tr t2).tr t3) r3.1, .cons (r2.tr t3) r3.2⟩)
def pairsK : List (D × D) → Option (List (Key × D))
  | [] => some []
  | (k, d) :: r => match keyK k, pairsK r with
    | some q, some l => some ((q, d) :: l)
    | _, _ => none
theorem pairsK_ok : ∀ {ds : List (D × D)} {vs : List (V × V)} {kvs : List (Key × D)}, PRel g H al vs ds → pairsK ds = some kvs → ∃ kv : List (Key × V), vs = kv.map (fun p => (kV p.1, p.2)) ∧ DRep g H al kv kvs
  | [], vs, kvs, r, h => by
    cases h
    obtain ⟨r1, r2⟩ := r
    cases vs with
    | nil => exact ⟨[], rfl, .nil⟩
    | cons _ _ => cases r1
  | (k, d) :: ds, vs, kvs, r, h => by
    unfold pairsK at h
    cases e1 : keyK k with
    | none => simp only [e1] at h; cases h
    | some q =>
      cases e2 : pairsK ds with
      | none => simp only [e1, e2] at h; cases h
      | some l =>
        simp only [e1, e2] at h; cases h
        obtain ⟨r1, r2⟩ := r
        cases vs with
        | nil => cases r1
        | cons p vs =>
          obtain ⟨x, y⟩ := p
          cases r1 with
          | cons a1 a2 =>
            cases r2 with
            | cons b1 b2 =>
              obtain ⟨kv, rfl, dr⟩ := pairsK_ok ⟨a2, b2⟩ e2
              have hx : x = kV q := keyK_ok a1 e1
              exact ⟨(q, y) :: kv, by rw [hx]; rfl, .cons b1 dr⟩
def mDct (ms : List (MD D × MD D)) : MD D := fun ρ s => (mPairs ms ρ (s ++ [.dK []])).bind fun ps s2 => match s2[s.length]? with
  | some (.dK []) => optD (pairsK ps) fun kvs => .ok (.ref s.length) (s2.set s.length (.dK (mergeD [] kvs)))
  | _ => .bad
structure DR (X : Cx) (pos : Pos) (ks : List (Option Expr)) (vs : List Expr) (g : G) (E : XK) (n : Nat) (ms : List (MD D × MD D)) : Prop where
  pp : PPs X pos ks vs (ms.map fun m => (TX g E m.1, TX g E m.2))
  all : ks.all (·.isSome) = true
  lk : ks.length = n
  lv : vs.length = n
  lm : ms.length = n
theorem dr_nil {pos : Pos} : DR X pos [] [] g E 0 [] := ⟨pps_nil, rfl, rfl, rfl, rfl⟩
theorem dr_cons {pos : Pos} {k v : Expr} {ks : List (Option Expr)} {vs : List Expr} {n : Nat} {mk mv : MD D} {ms : List (MD D × MD D)} (hk : PE X k (TX g E mk)) (hv : PE X v (TX g E mv)) (h : DR X pos ks vs g E n ms) : DR X pos (some k :: ks) (v :: vs) g E (n + 1) ((mk, mv) :: ms) :=
  ⟨pps_cons hk hv h.pp, by rw [List.all_cons, h.all]; rfl, by simp [h.lk], by simp [h.lv], by simp [h.lm]⟩
theorem mPairs_len : ∀ {ms : List (MD D × MD D)} {ρ : Ro} {s s' : Sto} {ps : List (D × D)}, mPairs ms ρ s = .ok ps s' → ps.length = ms.length
  | [], _, _, _, _, h => by cases h; rfl
  | (mk, mv) :: ms, ρ, s, s', ps, h => by
    unfold mPairs at h
    cases e1 : mk ρ s with
    | bad => rw [e1] at h; cases h
    | exc _ _ _ => rw [e1] at h; cases h
    | ok k s1 =>
      rw [e1] at h
      have h : (mv ρ s1).bind (fun v s => (mPairs ms ρ s).bind fun ps s => .ok ((k, v) :: ps) s) = .ok ps s' := h
      cases e2 : mv ρ s1 with
      | bad => rw [e2] at h; cases h
      | exc _ _ _ => rw [e2] at h; cases h
      | ok v s2 =>
        rw [e2] at h
        have h : (mPairs ms ρ s2).bind (fun ps s => .ok ((k, v) :: ps) s) = .ok ps s' := h
        cases e3 : mPairs ms ρ s2 with
        | bad => rw [e3] at h; cases h
        | exc _ _ _ => rw [e3] at h; cases h
        | ok qs s3 =>
          rw [e3] at h
          cases h
          rw [List.length_cons, mPairs_len e3]; rfl
theorem pairsK_len : ∀ {ds : List (D × D)} {kvs : List (Key × D)}, pairsK ds = some kvs → kvs.length = ds.length
  | [], _, h => by cases h; rfl
  | (k, d) :: ds, kvs, h => by
    unfold pairsK at h
    cases e1 : keyK k with
    | none => simp only [e1] at h; cases h
    | some q =>
      cases e2 : pairsK ds with
      | none => simp only [e1, e2] at h; cases h
      | some l =>
        simp only [e1, e2] at h; cases h
        rw [List.length_cons, pairsK_len e2]; rfl
theorem r_dct {pos : Pos} {ks : List (Option Expr)} {vs : List Expr} {n : Nat} {ms : List (MD D × MD D)} (h : DR X pos ks vs g E n ms) (h0 : ks ≠ []) (hn : n ≤ 15) : PE X (.Dict ks vs pos) (TX g E (mDct ms)) := by
  refine pe_mono (pe_disp h.pp h.all (by rw [h.lk, h.lv]) h0 (by rw [h.lk]; exact hn)) fun σ H Q ⟨ρ, al, s, er, st, p⟩ pa np => ?_
  have t : Tr g al H (al ++ [pa]) (upd H pa (.dK [])) := .alloc st np
  have st1 : StOk g (upd H pa (.dK [])) (al ++ [pa]) (s ++ [.dK []]) := st.alloc np ⟨[], upd_same, rfl, .nil⟩
  unfold mDct at p
  refine tp_ok ms (er.tr t) st1 (Post.bind (p.tr t) fun ps s2 vs H2 al2 eq t2 st2 rel p2 => ?_)
  have hp : al2[s.length]? = some pa := t2.ix (by rw [← st.len]; simp)
  split at p2
  · rename_i e
    obtain ⟨kvs, ek, p3⟩ := optD_inv (β := Nat) (γ := Nat) p2
    obtain ⟨kv, e1, e2, r2⟩ := st2.cell _ _ _ hp e
    have hkv : kv = [] := by cases kv with | nil => rfl | cons _ _ => cases e2
    subst hkv
    obtain ⟨kv2, hv, dr⟩ := pairsK_ok rel ek
    refine ⟨e1, kv2, hv, by rw [dr.length, pairsK_len ek, mPairs_len eq, h.lm]; exact hn, ?_⟩
    have t3 : Tr g al2 H2 al2 (upd H2 pa (.dK (mergeK [] kv2))) := .write hp e1 (fun _ _ z => nomatch z)
    have dr2 := (dr.merge .nil).tr t3
    exact p3 _ _ _ t3 (st2.write hp ⟨_, upd_same, dr2.1, dr2.2⟩) (.ref hp)
  · exact p2.elim
def mRevSl (c : Bool) (m : MD D) : MD D := fun ρ s => (m ρ s).bind fun x s => optD (asL x s) fun ds => newL c ds.reverse s
theorem me_revSl {c : Bool} {e : Expr} {m : MD D} {k : Nat} {p1 p2 p3 pos : Pos} (hK : g.K = X.K) (he : PE X e (TX g E m)) : PE X (.Subscript e (.Slice none none (some (.UnaryOp .USub (.Constant (.int 1) k p1) p2)) p3) pos) (TX g E (mRevSl c m)) :=
  pe_mono (pe_revL he) fun σ H Q h => TG.bind (k := fun x _ s => optD (asL x s) fun ds => newL c ds.reverse s) h fun x v H1 al1 ρ s1 er st rp p => by
    obtain ⟨ds, e, p1⟩ := optD_inv (β := Nat) (γ := Nat) p
    obtain ⟨pa, vs, rfl, sq, rs⟩ := asL_ok st rp e
    rw [hK] at sq
    exact ⟨pa, vs, rfl, sq, post_newL st rs.reverse p1⟩
end Mx
namespace Mx
open PySem L2
variable {g : G} {E : XK} {X : Cx} {H : Hp} {al : List Addr} {s : Sto} {σ : St} {ρ : Ro}
section
open PySem.W
theorem make_plain {prog : Program} {w : World} {A : Around} {K : Frag} {C : Addr} {s : Shared} {R : Result → Shared → Prop} (X : K.In s.heap) (hm : makesIn K C = true) (hi : findIn K (.ref C) "__init__" = some (some (.builtin "object.__init__")))
    (z : R (.ok (.ret (.ref (s.heap.objs.size + 1)))) { s with heap := (s.heap.push emptyDict).push (instObj C s.heap.objs.size) }) : codeAny (model prog w) A (.call (.ref C) ⟨[], []⟩) R s := by
  obtain ⟨hh, g, d, t, os⟩ := s
  have Y := makes_of (M := model prog w) X hm
  refine make_core Y (looks_findIn X hi) (fun self => Looks.of_pure (oi_bind self)) (.inr ⟨rfl, rfl⟩) ?_
  have e0 : ((hh.push emptyDict).push (instObj C hh.objs.size)).get? (hh.objs.size + 1) = some (instObj C hh.objs.size) := by
    have := Heap.get?_push_size (hh.push emptyDict) (o := instObj C hh.objs.size) rfl
    rwa [Heap.size_push] at this
  have t1 : Looks (model prog w) ((hh.push emptyDict).push (instObj C hh.objs.size)) (typeOf (.ref (hh.objs.size + 1))) (.ref C) := (Looks.ld e0).andThen .now
  have t2 : Looks (model prog w) ((hh.push emptyDict).push (instObj C hh.objs.size)) (isInstance (.ref (hh.objs.size + 1)) (.type "object")) true := t1.andThen (Y.top.keeps fun b o e => Heap.get?_push_of_some _ (Heap.get?_push_of_some _ e))
  refine codeAny_call_builtin oi_plain entry_oi (@check_slot (model prog w) _ _ _ "object.__init__" "object" "__init__" (.ref (hh.objs.size + 1)) [] [] _ oi_kind oi_split t2 (oi_args (.ref (hh.objs.size + 1))) ?_)
  rw [oi_run]
  exact wpAny_pure (And.intro rfl z)
end
structure MkPl (K : PySem.W.Frag) (C : Addr) : Prop where
  makes : PySem.W.makesIn K C = true
  init : PySem.W.findIn K (.ref C) "__init__" = some (some (.builtin "object.__init__"))
  kp : PySem.W.keepIn K (.ref C) = true
theorem pe_plain {C : Addr} {x : Str} {p pos : Pos} (M : MkPl X.K C) (hg : Gl X x) (hm : X.mg x = some (.ref C)) (hdb : (x == ("__debug__" : Str)) = false) :
    PE X (.Call (.Name x p) [] [] pos) (fun σ H Q => ∀ x dx, H x = none → H dx = none → dx ≠ x → Q (.ref x) (upd (upd H dx (.own x)) x (.ins C dx []))) := by
  refine ⟨fun pins s σ H Q I h => ?_⟩
  refine wpAny_Call_Name_kw (ld_glob I hg hm ?_ hdb)
  refine PySem.W.callWith_K0 I.kIn M.kp ?_
  have hq := h (s.heap.objs.size + 1) s.heap.objs.size (I.hok.fresh (Nat.le_succ _)) (I.hok.fresh (Nat.le_refl _)) (Nat.ne_of_lt (Nat.lt_succ_self _))
  exact wpAny_call (make_plain I.kIn M.makes M.init ⟨V.ref (s.heap.objs.size + 1), _, Inv.made (C := C) I, rfl, hq⟩)
def mMkP (c : Nat) : MD D := fun _ s => .ok (.ref s.length) (s ++ [.obj c []])
theorem me_plain {C : Addr} {c : Nat} {x : Str} {p pos : Pos} (M : MkPl X.K C) (hC : g.ca c = C) (hg : Gl X x) (hm : X.mg x = some (.ref C)) (hdb : (x == ("__debug__" : Str)) = false) : PE X (.Call (.Name x p) [] [] pos) (TX g E (mMkP c)) :=
  pe_mono (pe_plain M hg hm hdb) fun σ H Q ⟨ρ, al, s, e, st, q⟩ x dx nx nd ne => by
    subst hC
    have st1 : StOk g (upd H dx (.own x)) al s := st.same (upd_new nd)
    have t1 : Tr g al H al (upd H dx (.own x)) := .same (upd_new nd)
    have nx1 : upd H dx (.own x) x = none := by rw [upd_ne (Ne.symm ne)]; exact nx
    have t2 : Tr g al (upd H dx (.own x)) (al ++ [x]) (upd (upd H dx (.own x)) x (.ins (g.ca c) dx [])) := .alloc st1 nx1
    have st2 : StOk g (upd (upd H dx (.own x)) x (.ins (g.ca c) dx [])) (al ++ [x]) (s ++ [.obj c []]) := st1.alloc nx1 ⟨dx, [], by rw [upd_same]; simp, Nat.zero_le _, .nil⟩
    exact q _ _ _ (t1.trans t2) st2 (.ref (by rw [← st.len]; simp))
def frzD (n : Nat) (s : Sto) : Nat → D → Option D
  | 0, _ => none
  | k + 1, .ref m => if m < n then some (.ref m) else match s[m]? with
    | some (.lst ds) => (allSome (ds.map (frzD n s k))).map .lst
    | some (.obj c ds) => (allSome (ds.map (frzD n s k))).map (.obj c)
    | _ => none
  | k + 1, .tup ds => (allSome (ds.map (frzD n s k))).map .tup
  | k + 1, .lst ds => (allSome (ds.map (frzD n s k))).map .lst
  | k + 1, .frz ds => (allSome (ds.map (frzD n s k))).map .frz
  | k + 1, .obj c ds => (allSome (ds.map (frzD n s k))).map (.obj c)
  | k + 1, .exv c ds => (allSome (ds.map (frzD n s k))).map (.exv c)
  | _ + 1, .non => some .non
  | _ + 1, .bl b => some (.bl b)
  | _ + 1, .int i => some (.int i)
  | _ + 1, .str x => some (.str x)
  | _ + 1, .twn _ _ => none
section
def frzR (s0 : Sto) (r : Rs D) : Rs D := match r with
  | .ok d s' => match frzD s0.length s' 20 d with
    | some d' => if Sto.beq (s'.take s0.length) s0 = true then .ok d' s0 else .bad
    | none => .bad
  | .exc c ds s' => match allSome (ds.map (frzD s0.length s' 20)) with
    | some ds' => if Sto.beq (s'.take s0.length) s0 = true then .exc c ds' s0 else .bad
    | none => .bad
  | .bad => .bad
end
def mFrz (m : MD D) : MD D := fun ρ s => frzR s (m ρ s)
variable {H0 : Hp} {al0 be : List Addr}
theorem Out.shrink {a : Addr} (o : Out g (al0 ++ be) a) : Out g al0 a := ⟨fun m => o.1 (List.mem_append_left _ m), o.2⟩
mutual
theorem Rep.shrink : ∀ {v : V} {d : D}, Rep g H (al0 ++ be) v d → ∀ {v0 : V}, Rep g H0 al0 v0 d → Rep g H al0 v d
  | _, _, .non, _, _ => .non
  | _, _, .bl b, _, _ => .bl b
  | _, _, .int i, _, _ => .int i
  | _, _, .str x, _, _ => .str x
  | _, _, .ref h, _, .ref h0 => .ref (by rw [List.getElem?_append_left (List.getElem?_eq_some_iff.mp h0).1] at h; exact h)
  | _, _, .tupH h o r, _, .tupH _ _ r0 => .tupH h o.shrink (Reps.shrink r r0)
  | _, _, .tupH h o r, _, .tupK _ _ r0 => .tupH h o.shrink (Reps.shrink r r0)
  | _, _, .tupK q h r, _, .tupH _ _ r0 => .tupK q h (Reps.shrink r r0)
  | _, _, .tupK q h r, _, .tupK _ _ r0 => .tupK q h (Reps.shrink r r0)
  | _, _, .lst h o r, _, .lst _ _ r0 => .lst h o.shrink (Reps.shrink r r0)
  | _, _, .twn h o r, _, .twn _ _ r0 => .twn h o.shrink (Reps.shrink r r0)
  | _, _, .frz h o r, _, .frz _ _ r0 => .frz h o.shrink (Reps.shrink r r0)
  | _, _, .frz h o r, _, .frzK _ r0 => .frz h o.shrink (Reps.shrink r r0)
  | _, _, .frzK h r, _, .frz _ _ r0 => .frzK h (Reps.shrink r r0)
  | _, _, .frzK h r, _, .frzK _ r0 => .frzK h (Reps.shrink r r0)
  | _, _, .obj h o l r, _, .obj _ _ _ r0 => .obj h o.shrink l (Reps.shrink r r0)
  | _, _, .exv0 h o, _, _ => .exv0 h o.shrink
  | _, _, .exv1 h o hx ox l r, _, .exv1 _ _ _ _ _ r0 => .exv1 h o.shrink hx ox.shrink l (Reps.shrink r r0)
  | _, _, .exv1 h o hx ox l .nil, _, .exv0 _ _ => .exv1 h o.shrink hx ox.shrink l .nil
theorem Reps.shrink : ∀ {vs : List V} {ds : List D}, Reps g H (al0 ++ be) vs ds → ∀ {vs0 : List V}, Reps g H0 al0 vs0 ds → Reps g H al0 vs ds
  | _, _, .nil, _, _ => .nil
  | _, _, .cons h r, _, .cons h0 r0 => .cons (Rep.shrink h h0) (Reps.shrink r r0)
end
theorem CellOk.shrink {p p0 : Addr} {c : Cell} (h : CellOk g H (al0 ++ be) p c) (h0 : CellOk g H0 al0 p0 c) : CellOk g H al0 p c := by
  cases c with
  | lst ds => obtain ⟨vs, e, r⟩ := h; obtain ⟨_, _, r0⟩ := h0; exact ⟨vs, e, r.shrink r0⟩
  | dK ds => obtain ⟨vs, e, e', r⟩ := h; obtain ⟨_, _, _, r0⟩ := h0; exact ⟨vs, e, e', r.shrink r0⟩
  | dT ds => obtain ⟨vs, e, e', r⟩ := h; obtain ⟨_, _, _, r0⟩ := h0; exact ⟨vs, e, e', r.shrink r0⟩
  | obj c ds => obtain ⟨dx, vs, e, l, r⟩ := h; obtain ⟨_, _, _, _, r0⟩ := h0; exact ⟨dx, vs, e, l, r.shrink r0⟩
  | fK ds => obtain ⟨o, vs, e, e', r⟩ := h; obtain ⟨_, _, _, _, r0⟩ := h0; exact ⟨o, vs, e, e', r.shrink r0⟩
  | fT ds => obtain ⟨o, vs, e, e', r⟩ := h; obtain ⟨_, _, _, _, r0⟩ := h0; exact ⟨o, vs, e, e', r.shrink r0⟩
theorem StOk.shrink {s0 s' : Sto} (st0 : StOk g H0 al0 s0) (st : StOk g H (al0 ++ be) s') (e : s'.take s0.length = s0) : StOk g H al0 s0 := by
  refine ⟨st0.len, st0.nd, st.fs, st0.apart, fun n p c e1 e2 => ?_⟩
  have hn : n < s0.length := (List.getElem?_eq_some_iff.mp e2).1
  have e3 : s'[n]? = some c := by rw [← e] at e2; rw [List.getElem?_take_of_lt hn] at e2; exact e2
  have e4 : (al0 ++ be)[n]? = some p := by rw [List.getElem?_append_left (by rw [st0.len]; exact hn)]; exact e1
  exact (st.cell n p c e4 e3).shrink (st0.cell n p c e1 e2)
theorem frzs_ok {s' : Sto} {n k : Nat} (ih : ∀ (d d' : D) (v : V), frzD n s' k d = some d' → Rep g H (al0 ++ be) v d → Rep g H al0 v d') :
    ∀ (ds ds' : List D) (vs : List V), allSome (ds.map (frzD n s' k)) = some ds' → Reps g H (al0 ++ be) vs ds → Reps g H al0 vs ds'
  | [], _, _, h, r => by
    cases r
    have h' : (some [] : Option (List D)) = some _ := h
    cases h'
    exact .nil
  | d :: ds, _, _, h, r => by
    cases r with
    | cons r1 r2 =>
      rw [List.map_cons] at h
      cases e : frzD n s' k d with
      | none => rw [e] at h; cases h
      | some p =>
        rw [e] at h
        have h' : (allSome (ds.map (frzD n s' k))).map (p :: ·) = some _ := h
        cases e2 : allSome (ds.map (frzD n s' k)) with
        | none => rw [e2] at h'; cases h'
        | some ps =>
          rw [e2] at h'; cases h'
          exact .cons (ih d p _ e r1) (frzs_ok ih ds ps _ e2 r2)
theorem frzD_ok {s' : Sto} (st : StOk g H (al0 ++ be) s') : ∀ (k : Nat) (d d' : D) (v : V), frzD al0.length s' k d = some d' → Rep g H (al0 ++ be) v d → Rep g H al0 v d' := by
  have nd := st.nd
  have nin : ∀ p m, (al0 ++ be)[m]? = some p → al0.length ≤ m → Out g al0 p := fun p m e hm => by
    refine ⟨fun z => ?_, st.apart p (List.mem_of_getElem? e)⟩
    rw [List.getElem?_append_right hm] at e
    exact (List.nodup_append.mp nd).2.2 p z p (List.mem_of_getElem? e) rfl
  intro k
  induction k with
  | zero => intro d d' v h; cases h
  | succ k ih =>
    intro d d' v h r
    have sub := fun ds ds' vs => frzs_ok (n := al0.length) (s' := s') ih ds ds' vs
    cases d with
    | twn c ds => cases h
    | non => cases h; cases r; exact .non
    | bl b => cases h; cases r; exact .bl b
    | int i => cases h; cases r; exact .int i
    | str x => cases h; cases r; exact .str x
    | tup ds =>
      have h' : (allSome (ds.map (frzD al0.length s' k))).map D.tup = some d' := h
      cases e : allSome (ds.map (frzD al0.length s' k)) with
      | none => rw [e] at h'; cases h'
      | some es =>
        rw [e] at h'; cases h'
        cases r with
        | tupH h1 o rs => exact .tupH h1 o.shrink (sub _ _ _ e rs)
        | tupK q h1 rs => exact .tupK q h1 (sub _ _ _ e rs)
    | lst ds =>
      have h' : (allSome (ds.map (frzD al0.length s' k))).map D.lst = some d' := h
      cases e : allSome (ds.map (frzD al0.length s' k)) with
      | none => rw [e] at h'; cases h'
      | some es =>
        rw [e] at h'; cases h'
        cases r with
        | lst h1 o rs => exact .lst h1 o.shrink (sub _ _ _ e rs)
    | frz ds =>
      have h' : (allSome (ds.map (frzD al0.length s' k))).map D.frz = some d' := h
      cases e : allSome (ds.map (frzD al0.length s' k)) with
      | none => rw [e] at h'; cases h'
      | some es =>
        rw [e] at h'; cases h'
        cases r with
        | frz h1 o rs => exact .frz h1 o.shrink (sub _ _ _ e rs)
        | frzK h1 rs => exact .frzK h1 (sub _ _ _ e rs)
    | obj c ds =>
      have h' : (allSome (ds.map (frzD al0.length s' k))).map (D.obj c) = some d' := h
      cases e : allSome (ds.map (frzD al0.length s' k)) with
      | none => rw [e] at h'; cases h'
      | some es =>
        rw [e] at h'; cases h'
        cases r with
        | obj h1 o l rs => exact .obj h1 o.shrink l (sub _ _ _ e rs)
    | exv c ds =>
      have h' : (allSome (ds.map (frzD al0.length s' k))).map (D.exv c) = some d' := h
      cases e : allSome (ds.map (frzD al0.length s' k)) with
      | none => rw [e] at h'; cases h'
      | some es =>
        rw [e] at h'; cases h'
        cases r with
        | exv0 h1 o =>
          cases (show (some [] : Option (List D)) = some es from e)
          exact .exv0 h1 o.shrink
        | exv1 h1 o hx ox l rs => exact .exv1 h1 o.shrink hx ox.shrink l (sub _ _ _ e rs)
    | ref m =>
      cases r with
      | ref hp =>
        unfold frzD at h
        by_cases hm : m < al0.length
        · rw [if_pos hm] at h; cases h
          exact .ref (by rw [List.getElem?_append_left hm] at hp; exact hp)
        · rw [if_neg hm] at h
          have o := nin _ _ hp (by omega)
          cases e0 : s'[m]? with
          | none => rw [e0] at h; cases h
          | some c =>
            rw [e0] at h
            cases c with
            | lst ds =>
              have h' : (allSome (ds.map (frzD al0.length s' k))).map D.lst = some d' := h
              cases e : allSome (ds.map (frzD al0.length s' k)) with
              | none => rw [e] at h'; cases h'
              | some es =>
                rw [e] at h'; cases h'
                obtain ⟨vs, e1, rs⟩ := st.cell m _ _ hp e0
                exact .lst e1 o (sub _ _ _ e rs)
            | obj c ds =>
              have h' : (allSome (ds.map (frzD al0.length s' k))).map (D.obj c) = some d' := h
              cases e : allSome (ds.map (frzD al0.length s' k)) with
              | none => rw [e] at h'; cases h'
              | some es =>
                rw [e] at h'; cases h'
                obtain ⟨dx, vs, e1, l, rs⟩ := st.cell m _ _ hp e0
                exact .obj e1 o l (sub _ _ _ e rs)
            | dK _ => cases h
            | dT _ => cases h
            | fK _ => cases h
            | fT _ => cases h
theorem Tr.forget {al' : List Addr} {H' : Hp} (t : Tr g al H al' H') : Tr g al H al H' := ⟨⟨[], by simp, (fun _ z => nomatch z), (fun _ z => nomatch z)⟩, t.keep, t.dom, t.fz⟩
theorem post_frz {r : Rs D} {Q : VK} (st : StOk g H al s) (p : Post g E (Rep g) (frzR s r) H al Q) : Post g E (Rep g) r H al Q := by
  cases r with
  | bad => exact p
  | ok d s' =>
    intro v H' al' t st' rp
    unfold frzR at p
    cases e : frzD s.length s' 20 d with
    | none => simp only [e] at p; exact p.elim
    | some d' =>
      simp only [e] at p
      by_cases q : Sto.beq (s'.take s.length) s = true
      · rw [if_pos q] at p
        obtain ⟨be, rfl, _⟩ := id t.ex
        rw [← st.len] at e
        exact p v H' al t.forget (st.shrink st' (Sto.beq_ok q)) (frzD_ok st' 20 d d' v e rp)
      · rw [if_neg q] at p; exact p.elim
  | exc c ds s' =>
    intro cls dd H' al' t st' ex
    unfold frzR at p
    cases e : allSome (ds.map (frzD s.length s' 20)) with
    | none => simp only [e] at p; exact p.elim
    | some ds' =>
      simp only [e] at p
      by_cases q : Sto.beq (s'.take s.length) s = true
      · rw [if_pos q] at p
        obtain ⟨be, rfl, _⟩ := id t.ex
        rw [← st.len] at e
        refine p cls dd H' al t.forget (st.shrink st' (Sto.beq_ok q)) ⟨ex.1, ?_⟩
        rcases ex.2 with ⟨e1, e2⟩ | ⟨dx, vs, e1, e2, e3, e4, rs⟩
        · subst e1
          have e' : (some [] : Option (List D)) = some ds' := e
          cases e'
          exact .inl ⟨rfl, e2⟩
        · exact .inr ⟨dx, vs, e1, e2, e3.shrink, e4, frzs_ok (fun d d' v => frzD_ok st' 20 d d' v) ds ds' vs e rs⟩
      · rw [if_neg q] at p; exact p.elim
theorem me_frz {e : Expr} {m : MD D} (h : PE X e (TX g E m)) : PE X e (TX g E (mFrz m)) := pe_mono h fun σ H Q ⟨ρ, al, s, er, st, p⟩ => ⟨ρ, al, s, er, st, post_frz st p⟩
/-- a promise with the answer frozen -/
theorem fn_frz {P : Program} {w : World} {K : PySem.W.Frag} {mg : Str → Option Value} {base : Heap} {CX : CXT} {k n : Nat} {f : Addr} {fd : FuncData} {ps : List Str} {φ ψ : List D → Sto → Rs D} (F : FnOk P w K mg base CX k f fd ps (spOf g n φ))
    (h : ∀ ds s, ψ ds s = .bad ∨ frzR s (φ ds s) = ψ ds s) : FnOk P w K mg base CX k f fd ps (spOf g n ψ) :=
  F.imp fun vs H Q E ⟨hl, Fx, ds, al, s, rs, st, p⟩ => ⟨hl, Fx, ds, al, s, rs, st, by
    rcases h ds s with e | e
    · rw [e] at p; exact p.elim
    · rw [← e] at p; exact post_frz st p⟩
theorem fn_sub {P : Program} {w : World} {K : PySem.W.Frag} {mg : Str → Option Value} {base : Heap} {CX : CXT} {k n : Nat} {f : Addr} {fd : FuncData} {ps : List Str} {φ ψ : List D → Sto → Rs D} (F : FnOk P w K mg base CX k f fd ps (spOf g n φ))
    (h : ∀ ds s, ψ ds s = .bad ∨ φ ds s = ψ ds s) : FnOk P w K mg base CX k f fd ps (spOf g n ψ) :=
  F.imp fun vs H Q E ⟨hl, Fx, ds, al, s, rs, st, p⟩ => ⟨hl, Fx, ds, al, s, rs, st, by
    rcases h ds s with e | e
    · rw [e] at p; exact p.elim
    · rw [e]; exact p⟩
end Mx
namespace Mx
open PySem L2 RZ RT
/-- what stays through the whole law -/
structure Wd where
  P : Program
  w : World
  g : G
  mg : Str → Option Value
  base : Heap
  kk : Nat
  nn : Bool := false
/-- what a call may let out: with nn only exceptions whose context is None -/
abbrev cxN (nn : Bool) (P : Program) (w : World) : CXT := match nn with
  | true => L2N.CX P w
  | false => L2.CX P w
abbrev tkN (nn : Bool) (X : Cx) (V : WX) : Prop := match nn with
  | true => L2N.Takes X V
  | false => L2.Takes X V
theorem takesN_of {nn : Bool} {X : Cx} {E : XK} (hs : X.stack = X.env :: X.outer) (hf : X.env.frame = some X.env.locals) (hex : X.ex = []) {E₁ : Value → Shared → Prop}
    (hx : X.xe = fun e s' => wpAny (model X.prog X.w) X.A (leaving X.env e) (fun _ s'' => cxN nn X.prog X.w X.outer X.H_0 X.s_0 E e s'') E₁ s') : tkN nn X (fun cls d _ H => E cls d H) := by
  cases nn with
  | true => exact L2N.takes_of hs hf hex hx
  | false => exact L2.takes_of hs hf hex hx
theorem passesN {nn : Bool} {X : Cx} {V : WX} {E : XK} (tk : tkN nn X V) (hE : ∀ cls d σ H, E cls d H → V cls d σ H) : Passes (cxN nn X.prog X.w) X E := by
  cases nn with
  | true => exact L2N.passes_call tk hE
  | false => exact L2.passes_call tk hE
theorem passE0 {nn : Bool} {X : Cx} : Passes (cxN nn X.prog X.w) X E0 := by
  cases nn <;> (intro pins σ H s e s' I h; obtain ⟨_, _, _, _, _, _, _, _, _, _, _, _, z⟩ := h; exact z.elim)
/-- a body's names -/
structure Ct where
  N : List Str
  sc : Scope
  fn : Str → Bool
abbrev Ct.blk (c : Ct) (scope : Scope) : Ct := ⟨c.N, relS scope c.sc, fun x => scope.names.lookup x == some .cell⟩
structure Bx (W : Wd) (c : Ct) (E : XK) (X : Cx) : Prop where
  prog : X.prog = W.P
  w : X.w = W.w
  K : X.K = W.g.K
  mg : X.mg = W.mg
  base : X.base = W.base
  N : X.N = c.N
  sc : X.env.scope = c.sc
  fn : X.fn = c.fn
  nd : c.N.Nodup
  calm : X.calm = true
  kd : c.sc.kind = .function
  room : Room (W.kk + 1) X.A
  pass : Passes (cxN W.nn X.prog X.w) X E
structure BltW (W : Wd) (x : Str) : Prop where
  no : W.mg x = none
structure CallW (W : Wd) (x : Str) (n : Nat) (φ : List D → Sto → Rs D) (dds : List D) : Prop where
  ex : ∃ (f : Addr) (fd : FuncData) (ps : List Str) (dsv : List Value) (dvs : List V), FnOk W.P W.w W.g.K W.mg W.base (cxN W.nn W.P W.w) W.kk f fd ps (spOf W.g n φ) ∧ W.mg x = some (.ref f) ∧ PySem.W.keepIn W.g.K (.ref f) = true ∧ Binds W.g.K fd ps dsv ∧ Vals dvs dsv ∧ ∀ F H al, Reps (W.g.wF F) H al dvs dds
structure MakeW (W : Wd) (x : Str) (c n : Nat) (φ : List D → Sto → Rs D) (dds : List D) : Prop where
  ex : ∃ (C f : Addr) (fd : FuncData) (ps : List Str) (dsv : List Value) (dvs : List V), Mk W.g.K C f ∧ W.g.ca c = C ∧ FnOk W.P W.w W.g.K W.mg W.base (cxN W.nn W.P W.w) W.kk f fd ps (spOf W.g n φ) ∧ W.mg x = some (.ref C) ∧ Binds W.g.K fd ps dsv ∧ Vals dvs dsv ∧ ∀ F H al, Reps (W.g.wF F) H al dvs dds
structure PlW (W : Wd) (x : Str) (c : Nat) : Prop where
  ex : ∃ (C : Addr), MkPl W.g.K C ∧ W.g.ca c = C ∧ W.mg x = some (.ref C)
structure MethW (W : Wd) (m : Str) (n : Nat) (dds : List D) (disp : Nat → Option (List D → Sto → Rs D)) : Prop where
  ex : ∃ (dsv : List Value) (dvs : List V), Vals dvs dsv ∧ (∀ F H al, Reps (W.g.wF F) H al dvs dds) ∧ ∀ c φ, disp c = some φ → ClsOk W.g c ∧ m ∉ W.g.cf c ∧ ∃ f fd ps, Meth W.g.K (W.g.ca c) m f ∧ FnOk W.P W.w W.g.K W.mg W.base (cxN W.nn W.P W.w) W.kk f fd ps (spOf W.g n φ) ∧ Binds W.g.K fd ps dsv
def varB (c : Ct) (i : Nat) (x : Str) : Bool := c.N[i]? == some x && (c.sc.names.lookup x == some .local || (c.sc.names.lookup x == some .cell || c.sc.names.lookup x == some .free)) && x != "__debug__" && x != "__classdict__"
def setB (c : Ct) (i : Nat) (x : Str) : Bool := c.N[i]? == some x && (c.sc.names.lookup x == some .local || (c.sc.names.lookup x == some .cell && c.fn x))
def glB (c : Ct) (x : Str) : Bool := c.sc.names.lookup x == some .globalImplicit && x != "__debug__" && x != "__name__"
section
variable {W : Wd} {c : Ct} {E : XK} {X : Cx} {F : List Addr} {x : Str} {i n j : Nat} {pos p apos : Pos} {e a o : Expr} {es : List Expr} {ma mb : MD D} {ms : MD (List D)} {φ : List D → Sto → Rs D} {dds : List D}
theorem Bx.gK (b : Bx W c E X) : (W.g.wF F).K = X.K := b.K.symm
theorem Bx.blk (b : Bx W c E X) {s : Shared} {H : Hp} {scope : Scope} {cl : List (Str × Addr)} {C : Addr} {fp : List Addr} (hk : scope.kind = .function) : Bx W (c.blk scope) E0 (X.blk s H scope (compEnvC scope cl C X.env) fp) :=
  ⟨b.prog, b.w, b.K, b.mg, b.base, b.N, by show relS scope X.env.scope = _; rw [b.sc], rfl, b.nd, b.calm, hk, b.room, passE0 (nn := W.nn) (X := X.blk _ _ scope (compEnvC scope cl C X.env) fp)⟩
theorem Bx.glo (b : Bx W c E X) (h : glB c x = true) : Gl X x ∧ (x == ("__debug__" : Str)) = false ∧ x ≠ "__name__" := by
  unfold glB at h
  simp only [Bool.and_eq_true, bne_iff_ne, ne_eq, beq_iff_eq] at h
  exact ⟨by show X.env.scope.names.lookup x = _; rw [b.sc]; exact h.1.1, beq_eq_false_iff_ne.mpr h.1.2, h.2⟩
theorem Bx.hu (b : Bx W c E X) : X.A.units + 64 < cLine := by have := b.room.un; omega
theorem Bx.var (b : Bx W c E X) (h : varB c i x = true) : PE X (.Name x pos) (TX (W.g.wF F) E (mVar i)) := by
  unfold varB at h
  simp only [Bool.and_eq_true, Bool.or_eq_true, bne_iff_ne, ne_eq, beq_iff_eq] at h
  obtain ⟨⟨⟨h1, h2⟩, h3⟩, h4⟩ := h
  refine me_var (pe_var (by rw [b.N]; exact h1) ?_ (beq_eq_false_iff_ne.mpr h3) (beq_eq_false_iff_ne.mpr h4))
  unfold Vis
  rw [b.sc]
  exact h2
theorem r_int {k : Int} {j : Nat} : PE X (.Constant (.int k) j pos) (TX (W.g.wF F) E (mC (.int k))) := me_c pe_int fun _ _ => .int _
theorem r_bl {k : Bool} {j : Nat} : PE X (.Constant (.bool k) j pos) (TX (W.g.wF F) E (mC (.bl k))) := me_c pe_bl fun _ _ => .bl _
theorem r_non {j : Nat} : PE X (.Constant .none j pos) (TX (W.g.wF F) E (mC .non)) := me_c pe_non fun _ _ => .non
theorem r_str {k : Str} {j : Nat} : PE X (.Constant (.str k) j pos) (TX (W.g.wF F) E (mC (.str k))) := me_c pe_str fun _ _ => .str _
section
variable {d : Expr}
theorem Bx.add (b : Bx W c E X) (k : Bool) (ha : PE X a (TX (W.g.wF F) E ma)) (hb : PE X d (TX (W.g.wF F) E mb)) : PE X (.BinOp a .Add d pos) (TX (W.g.wF F) E (mBin (addD k) ma mb)) := me_bin opr_add (ok_add b.gK) ha hb
theorem Bx.sub (b : Bx W c E X) (ha : PE X a (TX (W.g.wF F) E ma)) (hb : PE X d (TX (W.g.wF F) E mb)) : PE X (.BinOp a .Sub d pos) (TX (W.g.wF F) E (mBin subD ma mb)) := me_bin op_sub ok_sub ha hb
theorem Bx.mul (b : Bx W c E X) (ha : PE X a (TX (W.g.wF F) E ma)) (hb : PE X d (TX (W.g.wF F) E mb)) : PE X (.BinOp a .Mult d pos) (TX (W.g.wF F) E (mBin mulD ma mb)) := me_bin (OpR.or op_mulA op_rep) ok_mul ha hb
theorem Bx.div (b : Bx W c E X) (ha : PE X a (TX (W.g.wF F) E ma)) (hb : PE X d (TX (W.g.wF F) E mb)) : PE X (.BinOp a .FloorDiv d pos) (TX (W.g.wF F) E (mBin divD ma mb)) := me_bin op_fdivW ok_div ha hb
theorem Bx.mod (b : Bx W c E X) (ha : PE X a (TX (W.g.wF F) E ma)) (hb : PE X d (TX (W.g.wF F) E mb)) : PE X (.BinOp a .Mod d pos) (TX (W.g.wF F) E (mBin modD ma mb)) := me_bin op_mod ok_mod ha hb
theorem Bx.pow (b : Bx W c E X) (ha : PE X a (TX (W.g.wF F) E ma)) (hb : PE X d (TX (W.g.wF F) E mb)) : PE X (.BinOp a .Pow d pos) (TX (W.g.wF F) E (mBin powD ma mb)) := me_bin op_pow ok_pow ha hb
end
inductive Cm where
  | eq | ne | lt | le | gt | ge | in_ | nin | is_ | nis
def Cm.op : Cm → CmpOp
  | .eq => .Eq | .ne => .NotEq | .lt => .Lt | .le => .LtE | .gt => .Gt | .ge => .GtE | .in_ => .In | .nin => .NotIn | .is_ => .Is | .nis => .IsNot
def Cm.sem : Cm → D → D → Sto → Rs D
  | .eq => eqD | .ne => neD | .lt => ltD | .le => leD | .gt => gtD | .ge => geD | .in_ => inD | .nin => ninD | .is_ => isD | .nis => nisD
theorem Bx.opr (b : Bx W c E X) : ∀ (k : Cm), ∃ r, OpR X (compareOp k.op) r ∧ OpOk (W.g.wF F) E r k.sem
  | .eq => ⟨_, op_eqP b.hu, ok_eq b.gK⟩
  | .ne => ⟨_, op_neP b.hu, ok_ne b.gK⟩
  | .lt => ⟨_, op_lt, ok_lt⟩
  | .le => ⟨_, op_le, ok_le⟩
  | .gt => ⟨_, op_gt, ok_gt⟩
  | .ge => ⟨_, op_ge, ok_ge⟩
  | .in_ => ⟨_, OpR.or (op_inP b.hu) (op_inD b.hu), ok_in b.gK⟩
  | .nin => ⟨_, OpR.or (op_ninP b.hu) (op_ninD b.hu), ok_nin b.gK⟩
  | .is_ => ⟨_, op_isN, ok_is⟩
  | .nis => ⟨_, op_notN, ok_nis⟩
section
variable {d f : Expr} {mc : MD D} {rest : List Expr}
theorem Bx.cmp (b : Bx W c E X) (k : Cm) {op : CmpOp} (ho : op = k.op) (hm : behindInMarks op d = false) (ha : PE X a (TX (W.g.wF F) E ma)) (hb : PE X d (TX (W.g.wF F) E mb)) : PE X (.Compare a [op] [d] pos) (TX (W.g.wF F) E (mBin k.sem ma mb)) := by
  subst ho
  obtain ⟨r, h1, h2⟩ := b.opr (F := F) k
  exact me_cmp h1 hm h2 ha hb
theorem Bx.tcmp (b : Bx W c E X) (k : Cm) {op : CmpOp} (ho : op = k.op) (hm : behindInMarks op d = false) (ha : PE X a (TX (W.g.wF F) E ma)) (hb : PE X d (TX (W.g.wF F) E mb)) : PT X (.Compare a [op] [d] pos) (TXb (W.g.wF F) E (mTest (mBin k.sem ma mb))) := by
  subst ho
  obtain ⟨r, h1, h2⟩ := b.opr (F := F) k
  exact mt_cmp h1 hm h2 ha hb
theorem Bx.chain (b : Bx W c E X) (k l : Cm) {op op2 : CmpOp} (ho : op = k.op) (ho2 : op2 = l.op) (hm : lastMarks [op, op2] [d, f] = false) (ha : PE X a (TX (W.g.wF F) E ma)) (hb : PE X d (TX (W.g.wF F) E mb)) (hc : PE X f (TX (W.g.wF F) E mc)) : PE X (.Compare a [op, op2] [d, f] pos) (TX (W.g.wF F) E (mChain k.sem l.sem ma mb mc)) := by
  subst ho; subst ho2
  obtain ⟨r, h1, h2⟩ := b.opr (F := F) k
  obtain ⟨r2, h3, h4⟩ := b.opr (F := F) l
  exact me_chain h1 h3 h2 h4 hm ha hb hc
theorem Bx.tchain (b : Bx W c E X) (k l : Cm) {op op2 : CmpOp} (ho : op = k.op) (ho2 : op2 = l.op) (hm : lastMarks [op, op2] [d, f] = false) (ha : PE X a (TX (W.g.wF F) E ma)) (hb : PE X d (TX (W.g.wF F) E mb)) (hc : PE X f (TX (W.g.wF F) E mc)) : PT X (.Compare a [op, op2] [d, f] pos) (TXb (W.g.wF F) E (mTest (mChain k.sem l.sem ma mb mc))) := by
  subst ho; subst ho2
  obtain ⟨r, h1, h2⟩ := b.opr (F := F) k
  obtain ⟨r2, h3, h4⟩ := b.opr (F := F) l
  exact mt_chain h1 h3 h2 h4 hm ha hb hc
theorem Bx.idx (b : Bx W c E X) (ha : PE X a (TX (W.g.wF F) E ma)) (hb : PE X d (TX (W.g.wF F) E mb)) (hs : noSl d = true) : PE X (.Subscript a d pos) (TX (W.g.wF F) E (mBin idxD ma mb)) := me_idx b.hu b.gK ha hb hs
theorem Bx.revSl (b : Bx W c E X) (k : Bool) {j : Nat} {p1 p2 p3 : Pos} (ha : PE X a (TX (W.g.wF F) E ma)) : PE X (.Subscript a (.Slice none none (some (.UnaryOp .USub (.Constant (.int 1) j p1) p2)) p3) pos) (TX (W.g.wF F) E (mRevSl k ma)) := me_revSl b.gK ha
theorem Bx.sl (b : Bx W c E X) (k : Bool) {lo hi : Option Expr} {ml mh : MD (Option Int)} (ha : PE X a (TX (W.g.wF F) E ma)) (hl : PO X lo (TXo (W.g.wF F) E ml)) (hh : PO X hi (TXo (W.g.wF F) E mh)) : PE X (.Subscript a (.Slice lo hi none p) pos) (TX (W.g.wF F) E (mSl k ma ml mh)) := me_sl b.gK ha hl hh
end
structure AR (X : Cx) (es : List Expr) (g : G) (E : XK) (n : Nat) (ms : MD (List D)) : Prop where
  pa : PA X es (TXs g E ms)
  len : Len n ms
  pl : es.all plainE = true
  sz : es.length = n
theorem ar_nil {g : G} : AR X [] g E 0 mNil := ⟨ma_nil, len_nil, rfl, rfl⟩
theorem ar_cons {g : G} (he : PE X e (TX g E ma)) (hs : AR X es g E n ms) (hp : plainE e = true) : AR X (e :: es) g E (n + 1) (mCons ma ms) :=
  ⟨ma_cons he hs.pa hp, len_cons hs.len, by rw [List.all_cons, hp, hs.pl]; rfl, by simp [hs.sz]⟩
theorem r_tup {g : G} {k : Nat} (h : AR X es g E n ms) (hn : n ≤ 1000) : PE X (.Tuple es k pos) (TX g E (mTup ms)) := me_tup h.len hn h.pa
theorem r_lst {g : G} (k : Bool) (h : AR X es g E n ms) (hn : n ≤ 1000) : PE X (.List es pos) (TX g E (mLst k ms)) := me_lst h.len hn h.pa
theorem Bx.fnok {k : Nat} {f : Addr} {fd : FuncData} {ps : List Str} (b : Bx W c E X) (h : FnOk W.P W.w W.g.K W.mg W.base (cxN W.nn W.P W.w) k f fd ps (spOf W.g n φ)) : FnOk X.prog X.w X.K X.mg X.base (cxN W.nn X.prog X.w) k f fd ps (spOf (W.g.wF F) n φ) := by
  rw [b.prog, b.w, b.K, b.mg, b.base]; exact h
theorem Bx.call (b : Bx W c E X) (h : CallW W x n φ dds) (hg : glB c x = true) (ha : AR X (e :: es) (W.g.wF F) E j ms) (hn : j + dds.length = n) : PE X (.Call (.Name x p) (e :: es) [] pos) (TX (W.g.wF F) E (mCall φ dds ms)) := by
  obtain ⟨f, fd, ps, dsv, dvs, hF, hm, hk, hb, hv, hr⟩ := h.ex
  obtain ⟨g1, g2, g3⟩ := b.glo hg
  exact me_call (b.fnok hF) (b.room.mono (Nat.le_succ _)) g1 (by rw [b.mg]; exact hm) (by rw [b.K]; exact hk) (by rw [b.K]; exact hb) hv (fun H al => hr F H al) b.pass g2 ha.pa ha.len hn ha.pl
theorem Bx.call0 (b : Bx W c E X) (h : CallW W x n φ dds) (hg : glB c x = true) (hn : dds.length = n) : PE X (.Call (.Name x p) [] [] pos) (TX (W.g.wF F) E (mCall φ dds mNil)) := by
  obtain ⟨f, fd, ps, dsv, dvs, hF, hm, hk, hb, hv, hr⟩ := h.ex
  obtain ⟨g1, g2, g3⟩ := b.glo hg
  exact me_call0 (b.fnok hF) (b.room.mono (Nat.le_succ _)) g1 (by rw [b.mg]; exact hm) (by rw [b.K]; exact hk) (by rw [b.K]; exact hb) hv (fun H al => hr F H al) b.pass g2 hn
theorem Bx.make (b : Bx W c E X) {q : Nat} (h : MakeW W x q n φ dds) (hg : glB c x = true) (ha : AR X (e :: es) (W.g.wF F) E j ms) (hn : j + dds.length + 1 = n) : PE X (.Call (.Name x p) (e :: es) [] pos) (TX (W.g.wF F) E (mCall (mkD q φ) dds ms)) := by
  obtain ⟨C, f, fd, ps, dsv, dvs, hM, hC, hF, hm, hb, hv, hr⟩ := h.ex
  obtain ⟨g1, g2, g3⟩ := b.glo hg
  exact me_make (by rw [b.K]; exact hM) hC (b.fnok hF) b.room g1 (by rw [b.mg]; exact hm) (by rw [b.K]; exact hb) hv (fun H al => hr F H al) b.pass g2 ha.pa ha.len hn ha.pl
theorem Bx.make0 (b : Bx W c E X) {q : Nat} (h : MakeW W x q n φ dds) (hg : glB c x = true) (hn : dds.length + 1 = n) : PE X (.Call (.Name x p) [] [] pos) (TX (W.g.wF F) E (mCall (mkD q φ) dds mNil)) := by
  obtain ⟨C, f, fd, ps, dsv, dvs, hM, hC, hF, hm, hb, hv, hr⟩ := h.ex
  obtain ⟨g1, g2, g3⟩ := b.glo hg
  exact me_make0 (by rw [b.K]; exact hM) hC (b.fnok hF) b.room g1 (by rw [b.mg]; exact hm) (by rw [b.K]; exact hb) hv (fun H al => hr F H al) b.pass g2 hn
theorem Bx.plain (b : Bx W c E X) {q : Nat} (h : PlW W x q) (hg : glB c x = true) : PE X (.Call (.Name x p) [] [] pos) (TX (W.g.wF F) E (mMkP q)) := by
  obtain ⟨C, hM, hC, hm⟩ := h.ex
  obtain ⟨g1, g2, g3⟩ := b.glo hg
  exact me_plain (by rw [b.K]; exact hM) hC g1 (by rw [b.mg]; exact hm) g2
theorem Bx.mtok (b : Bx W c E X) {m : Str} {dsv : List Value} {disp : Nat → Option (List D → Sto → Rs D)} (h : ∀ c φ, disp c = some φ → ClsOk W.g c ∧ m ∉ W.g.cf c ∧ ∃ f fd ps, Meth W.g.K (W.g.ca c) m f ∧ FnOk W.P W.w W.g.K W.mg W.base (cxN W.nn W.P W.w) W.kk f fd ps (spOf W.g n φ) ∧ Binds W.g.K fd ps dsv) :
    ∀ q φ, disp q = some φ → MtOk X (W.g.wF F) (cxN W.nn X.prog X.w) W.kk n dsv m q φ := fun q φ hq => by
  obtain ⟨h1, h2, f, fd, ps, h3, h4, h5⟩ := h q φ hq
  exact ⟨⟨h1.cl, h1.no, h1.nd, h1.few⟩, h2, f, fd, ps, h3, b.fnok h4, by rw [b.K]; exact h5⟩
theorem Bx.meth (b : Bx W c E X) {m : Str} {disp : Nat → Option (List D → Sto → Rs D)} (h : MethW W m n dds disp) (ho : PE X o (TX (W.g.wF F) E ma)) (hbo : baseOk o = true) (ha : AR X (e :: es) (W.g.wF F) E j ms) (hn : j + dds.length + 1 = n) (h30 : (e :: es).length < 30) (hpo : (apos.endLine == pos.line) = true) :
    PE X (.Call (.Attribute o m apos) (e :: es) [] pos) (TX (W.g.wF F) E (mMeth disp dds ma ms)) := by
  obtain ⟨dsv, dvs, hv, hr, hM⟩ := h.ex
  exact me_meth b.gK (b.room.mono (Nat.le_succ _)) hv (fun H al => hr F H al) b.pass (b.mtok hM) ho hbo ha.pa ha.len hn ha.pl h30 hpo
theorem Bx.meth0 (b : Bx W c E X) {m : Str} {disp : Nat → Option (List D → Sto → Rs D)} (h : MethW W m n dds disp) (ho : PE X o (TX (W.g.wF F) E ma)) (hbo : baseOk o = true) (hn : dds.length + 1 = n) (hpo : (apos.endLine == pos.line) = true) :
    PE X (.Call (.Attribute o m apos) [] [] pos) (TX (W.g.wF F) E (mMeth disp dds ma mNil)) := by
  obtain ⟨dsv, dvs, hv, hr, hM⟩ := h.ex
  exact me_meth0 b.gK (b.room.mono (Nat.le_succ _)) hv (fun H al => hr F H al) b.pass (b.mtok hM) ho hbo hn hpo
theorem Bx.fld (b : Bx W c E X) {q k : Nat} {f : Str} (C : ClsOk W.g q) (hk : (W.g.cf q)[k]? = some f) (ha : PE X a (TX (W.g.wF F) E ma)) (hb : baseOk a = true) : PE X (.Attribute a f pos) (TX (W.g.wF F) E (mFld q k ma)) :=
  me_fld b.gK ⟨C.cl, C.no, C.nd, C.few⟩ hk ha hb
theorem Bx.bi (b : Bx W c E X) (k : BI) (hx : x = k.nm) (h : BltW W x) (hg : glB c x = true) (ha : AR X (e :: es) (W.g.wF F) E j ms) : PE X (.Call (.Name x p) (e :: es) [] pos) (TX (W.g.wF F) E (mCallB k.sem ms)) :=
  me_bi k hx b.gK b.calm (b.glo hg).1 (by rw [b.mg]; exact h.no) ha.pa ha.pl
theorem Bx.bm (b : Bx W c E X) (k : BM) {m : Str} (hb0 : k.args = true) (hn : m = k.nm) (ho : PE X o (TX (W.g.wF F) E ma)) (hb : baseOk o = true) (ha : AR X (e :: es) (W.g.wF F) E j ms) (h28 : (e :: es).length < 29) (hline : (apos.endLine == pos.line) = true) :
    PE X (.Call (.Attribute o m apos) (e :: es) [] pos) (TX (W.g.wF F) E (mBM k.ty k.sem ma ms)) := me_bmA b.hu k hb0 hn b.gK ho hb ha.pa ha.pl h28 hline
theorem Bx.bm0 (b : Bx W c E X) (k : BM) {m : Str} (hb0 : k.args = false) (hn : m = k.nm) (ho : PE X o (TX (W.g.wF F) E ma)) (hb : baseOk o = true) (hline : (apos.endLine == pos.line) = true) :
    PE X (.Call (.Attribute o m apos) [] [] pos) (TX (W.g.wF F) E (mBM k.ty k.sem ma mNil)) := me_bmN k hb0 hn b.gK ho hb hline
def tyNm : D → Sto → Option String
  | .non, _ => some "NoneType" | .bl _, _ => some "bool" | .int _, _ => some "int" | .str _, _ => some "str" | .tup _, _ => some "tuple" | .lst _, _ => some "list" | .frz _, _ => some "list"
  | .obj _ _, _ => none
  | .exv _ _, _ => none
  | .twn _ _, _ => some "list"
  | .ref n, s => match s[n]? with
    | some (.lst _) => some "list"
    | some (.dK _) => some "dict"
    | some (.dT _) => some "dict"
    | _ => none
def isiD (tyB : String → Option Bool) (isA : Nat → Option Bool) (x : D) (s : Sto) : Rs D := match tyNm x s with
  | some t => optD (tyB t) fun b => .ok (.bl b) s
  | none => optD ((clsD x s).bind isA) fun b => .ok (.bl b) s
structure InsTy (K : PySem.W.Frag) (C : Addr) : Prop where
  ha : PySem.W.findIn K (.ref C) "__class__" = some (some (.builtin "object.__class__"))
  hn : PySem.W.specialIn K (.builtin "object.__class__") "__get__" = some (some (.builtin "getset_descriptor.__get__"))
  htk : PySem.W.takesIn K (.builtin "object.__class__") = some true
  hm : PySem.W.mroIn K C (.type "object") = some true
structure IsW (W : Wd) (u : Value) (tyB : String → Option Bool) (isA : Nat → Option Bool) : Prop where
  ty : ∀ t b, tyB t = some b → PySem.W.kitOne W.g.K (.type t) u = some b
  ins : ∀ q b, isA q = some b → Cls W.g.K (W.g.ca q) ∧ InsTy W.g.K (W.g.ca q) ∧ PySem.W.kitOne W.g.K (.ref (W.g.ca q)) u = some b
theorem tyNm_ok {g : G} {H : Hp} {al : List Addr} {s : Sto} {v : V} {d : D} {t : String} (st : StOk g H al s) (r : Rep g H al v d) (h : tyNm d s = some t) : TyX g.K H v (.type t) := by
  cases r with
  | non => cases h; exact .base .non
  | bl b => cases h; exact .base (.bl _)
  | int b => cases h; exact .base (.int _)
  | str b => cases h; exact .base (.str _)
  | tupH h1 _ _ => cases h; exact .base (.tup h1)
  | tupK _ h1 _ => cases h; obtain ⟨o, its, n, e1, e2, _⟩ := h1; exact .kTuple e1 e2
  | lst h1 _ _ => cases h; exact .base (.lst h1)
  | twn h1 _ _ => cases h; exact .base (.lst h1)
  | frz h1 _ _ => cases h; exact .base (.frz h1)
  | frzK h1 _ => cases h; obtain ⟨o, its, n, e1, e2, _⟩ := h1; exact .kList e1 e2
  | obj _ _ _ _ => cases h
  | exv0 _ _ => cases h
  | exv1 _ _ _ _ _ _ => cases h
  | ref hp =>
    rename_i n p
    cases e : s[n]? with
    | none => simp [tyNm, e] at h
    | some cl =>
      have k := st.cell n _ _ hp e
      cases cl with
      | lst ds => simp [tyNm, e] at h; subst h; obtain ⟨vs, e1, _⟩ := k; exact .base (.lst e1)
      | dK ds => simp [tyNm, e] at h; subst h; obtain ⟨vs, e1, _⟩ := k; exact .base (.dK e1)
      | dT ds => simp [tyNm, e] at h; subst h; obtain ⟨vs, e1, _⟩ := k; exact .base (.dT e1)
      | obj _ _ => simp [tyNm, e] at h
      | fK _ => simp [tyNm, e] at h
      | fT _ => simp [tyNm, e] at h
theorem Bx.isi (b : Bx W c E X) {u : Value} {cv : V} {y : Str} {p2 : Pos} {tyB : String → Option Bool} {isA : Nat → Option Bool} (hI : IsW W u tyB isA) (hk : ClsV cv u) (hy : PE X (.Name y p2) (tC cv)) (h0 : BltW W "isinstance") (hg : glB c "isinstance" = true) (he : PE X e (TX (W.g.wF F) E ma)) (hp : plainE e = true) :
    PE X (.Call (.Name "isinstance" p) [e, .Name y p2] [] pos) (TX (W.g.wF F) E (fun ρ s => (ma ρ s).bind (isiD tyB isA))) := by
  obtain ⟨g1, g2, g3⟩ := b.glo hg
  refine pe_mono (pe_callB call_isi g1 (by rw [b.mg]; exact h0.no) (by decide +kernel) (pa_cons he (pa_cons hy pa_nil rfl) (star_cons hp)) (by decide) (by decide) (star_cons hp) (star_any rfl)) fun σ H Q ⟨ρ, al, s, er, st, q⟩ => ?_
  refine ⟨ρ, al, s, er, st, Post.bind q fun d s1 v H1 al1 hd t st1 rp q1 => ?_⟩
  unfold isiD at q1
  cases et : tyNm d s1 with
  | some ty =>
    rw [et] at q1
    obtain ⟨k, e1, q2⟩ := optD_inv (β := Nat) (γ := Nat) q1
    exact ⟨v, cv, .type ty, u, k, rfl, hk, by rw [b.K]; exact tyNm_ok (g := W.g.wF F) st1 rp et, by rw [b.K]; exact hI.ty _ _ e1, q2 _ _ _ .refl st1 (.bl _)⟩
  | none =>
    rw [et] at q1
    obtain ⟨k, e1, q2⟩ := optD_inv (β := Nat) (γ := Nat) q1
    cases ec : clsD d s1 with
    | none => rw [ec] at e1; cases e1
    | some cl =>
      rw [ec] at e1
      obtain ⟨ds, eo⟩ := clsD_as ec
      obtain ⟨pa, dx, vs, rfl, e2, l, rs⟩ := asO_ok st1 rp eo
      obtain ⟨h1, h2, h3⟩ := hI.ins cl k e1
      refine ⟨_, cv, .ref (W.g.ca cl), u, k, rfl, hk, ?_, by rw [b.K]; exact h3, q2 _ _ _ .refl st1 (.bl _)⟩
      rw [b.K]
      exact .base (.ins e2 h1 h2.ha h2.hn h2.htk h2.hm)
/-- a built-in type's name -/
theorem Bx.ty (b : Bx W c E X) (T : String) (h : BltW W x) (hg : glB c x = true) (hv : bootBuiltins x = some (.type T)) : PE X (.Name x pos) (tC (.ty T)) := by
  obtain ⟨g1, g2, g3⟩ := b.glo hg
  exact pe_bltn g1 (by rw [b.mg]; exact h.no) hv rfl g3 g2
/-- an own class's name -/
theorem Bx.cls (b : Bx W c E X) {C : Addr} (h : W.mg x = some (.ref C)) (hg : glB c x = true) : PE X (.Name x pos) (tC (.ref C)) := by
  obtain ⟨g1, g2, g3⟩ := b.glo hg
  exact pe_glob g1 (by rw [b.mg]; exact h) rfl g2
end
end Mx
namespace Mx
open PySem L2 RZ RT
section
variable {W : Wd} {c : Ct} {E : XK} {X : Cx} {F : List Addr} {x : Str} {i n j : Nat} {pos p apos : Pos} {e a o : Expr} {es : List Expr} {ma mb : MD D} {ms : MD (List D)} {φ : List D → Sto → Rs D} {dds : List D}
section
variable {tg : Expr} {elts : List Expr} {k : Nat} {tpos : Pos}
theorem Bx.src (b : Bx W c E X) (he : PE X e (TX (W.g.wF F) E ma)) : PI X tg e (TIx (W.g.wF F) E (mSrc ma)) := mi_expr b.gK he
theorem Bx.rng1 (b : Bx W c E X) {a : Expr} (h : BltW W "range") (hg : glB c "range" = true) (ha : AR X [a] (W.g.wF F) E 1 ms) : PI X tg (.Call (.Name "range" p) [a] [] pos) (TIx (W.g.wF F) E (mRng ms)) := mi_rng1 (b.glo hg).1 (by rw [b.mg]; exact h.no) ha.pa ha.len ha.pl
theorem Bx.rng2 (b : Bx W c E X) {a d : Expr} (h : BltW W "range") (hg : glB c "range" = true) (ha : AR X [a, d] (W.g.wF F) E 2 ms) : PI X tg (.Call (.Name "range" p) [a, d] [] pos) (TIx (W.g.wF F) E (mRng ms)) := mi_rng2 (b.glo hg).1 (by rw [b.mg]; exact h.no) ha.pa ha.len ha.pl
theorem Bx.rng3 (b : Bx W c E X) {a d f : Expr} (h : BltW W "range") (hg : glB c "range" = true) (ha : AR X [a, d, f] (W.g.wF F) E 3 ms) : PI X tg (.Call (.Name "range" p) [a, d, f] [] pos) (TIx (W.g.wF F) E (mRng ms)) := mi_rng3 (b.glo hg).1 (by rw [b.mg]; exact h.no) ha.pa ha.len ha.pl
theorem Bx.rev (b : Bx W c E X) {a : Expr} (h : BltW W "reversed") (hg : glB c "reversed" = true) (ha : PE X a (TX (W.g.wF F) E ma)) (hp : plainE a = true) : PI X tg (.Call (.Name "reversed" p) [a] [] pos) (TIx (W.g.wF F) E (mRev ma)) := mi_rev b.gK (b.glo hg).1 (by rw [b.mg]; exact h.no) ha hp
theorem Bx.enum (b : Bx W c E X) (h : BltW W "enumerate") (hg : glB c "enumerate" = true) (ha : AR X [e] (W.g.wF F) E 1 ms) : PI X (.Tuple elts k tpos) (.Call (.Name "enumerate" p) [e] [] pos) (TIx (W.g.wF F) E (mEnum ms)) := mi_enum b.gK (b.glo hg).1 (by rw [b.mg]; exact h.no) ha.pa ha.pl
theorem Bx.zip (b : Bx W c E X) {d : Expr} (h : BltW W "zip") (hg : glB c "zip" = true) (ha : AR X [e, d] (W.g.wF F) E 2 ms) : PI X (.Tuple elts k tpos) (.Call (.Name "zip" p) [e, d] [] pos) (TIx (W.g.wF F) E (mZip ms)) := mi_zip b.gK (b.glo hg).1 (by rw [b.mg]; exact h.no) ha.pa ha.pl
end
theorem Bx.setI (b : Bx W c E X) (h : setB c i x = true) : X.N[i]? = some x ∧ L2.Loc X.env.scope x ∧ (X.fn x = true ∨ X.env.scope.names.lookup x = some .local) ∧ X.N.Nodup := by
  unfold setB at h
  simp only [Bool.and_eq_true, Bool.or_eq_true, beq_iff_eq] at h
  refine ⟨by rw [b.N]; exact h.1, ?_, ?_, by rw [b.N]; exact b.nd⟩
  · unfold L2.Loc
    rw [b.sc]
    exact h.2.elim .inl fun z => .inr z.1
  · rw [b.sc, b.fn]
    exact h.2.elim .inr fun z => .inl z.2
theorem Bx.tname (b : Bx W c E X) {vs : List Nat} (h : setB c i x = true) (hv : i ∈ vs) : PG X (.Name x pos) (tgR (W.g.wF F) E vs (tgName i)) :=
  let ⟨h1, h2, h3, h4⟩ := b.setI h
  mg_name h4 h1 h2 h3 hv
def NoX (t : D → MD Ro) : Prop := ∀ d ρ s c ds s', t d ρ s ≠ .exc c ds s'
theorem nox_name : NoX (tgName i) := fun d ρ s c ds s' h => by cases h
structure TR (X : Cx) (es : List Expr) (g : G) (E : XK) (vs : List Nat) (n : Nat) (ts : List D → MD Ro) : Prop where
  pg : PGs X es (tgsR g E vs ts)
  nox : ∀ d ρ s c ds s', ts d ρ s ≠ .exc c ds s'
  bad : ∀ ds ρ s, ds.length ≠ n → ts ds ρ s = .bad
  pl : es.all plainE = true
  sz : es.length = n
theorem nil_bad : ∀ (ds : List D) (ρ : Ro) (s : Sto), ds.length ≠ 0 → tgNil ds ρ s = .bad
  | [], _, _, h => absurd rfl h
  | _ :: _, _, _, _ => rfl
theorem tr_nil {g : G} {vs : List Nat} : TR X [] g E vs 0 tgNil := ⟨mgs_nil, fun d ρ s c ds s' h => (by cases d <;> cases h), nil_bad, rfl, rfl⟩
theorem tr_cons {g : G} {vs : List Nat} {t : D → MD Ro} {ts : List D → MD Ro} (h1 : PG X e (tgR g E vs t)) (hx : NoX t) (h2 : TR X es g E vs n ts) (hp : plainE e = true) : TR X (e :: es) g E vs (n + 1) (tgCons t ts) := by
  refine ⟨mgs_cons h1 h2.pg hp, fun d ρ s c ds s' h => ?_, fun ds ρ s h => ?_, by rw [List.all_cons, hp, h2.pl]; rfl, by simp [h2.sz]⟩
  · cases d with
    | nil => cases h
    | cons d ds2 =>
      have h' : (t d ρ s).bind (fun ρ s => ts ds2 ρ s) = .exc c ds s' := h
      cases e1 : t d ρ s with
      | bad => rw [e1] at h'; cases h'
      | exc c2 es2 s2 => exact hx _ _ _ _ _ _ e1
      | ok ρ2 s2 => rw [e1] at h'; exact h2.nox _ _ _ _ _ _ h'
  · cases ds with
    | nil => rfl
    | cons d ds2 =>
      show (t d ρ s).bind (fun ρ s => ts ds2 ρ s) = .bad
      cases e1 : t d ρ s with
      | bad => rfl
      | exc c2 es2 s2 => exact absurd e1 (hx _ _ _ _ _ _)
      | ok ρ2 s2 => exact h2.bad _ _ _ fun z => h (by simp [z])
theorem Bx.ttup (b : Bx W c E X) {vs : List Nat} {k : Nat} {ts : List D → MD Ro} (h : TR X es (W.g.wF F) E vs n ts) : PG X (.Tuple es k pos) (tgR (W.g.wF F) E vs (tgTup ts)) :=
  mg_tup b.gK b.calm h.pg h.sz (fun ds ρ s H al Q hn p => by rw [h.bad ds ρ s hn] at p; exact p) h.pl
theorem nox_tup {g : G} {vs : List Nat} {ts : List D → MD Ro} (h : TR X es g E vs n ts) : NoX (tgTup ts) := fun d ρ s c ds s' q => by
  cases d with
  | tup es => exact h.nox _ _ _ _ _ _ q
  | _ => cases q
theorem Bx.tidx (b : Bx W c E X) {vs : List Nat} (ho : PE X o (TX (W.g.wF F) E ma)) (hi : PE X a (TX (W.g.wF F) E mb)) (hs : noSl a = true) : PG X (.Subscript o a pos) (tgR (W.g.wF F) E vs (tgIdx ma mb)) := mg_idx b.hu ho hi hs
section
variable {elt tg iter : Expr} {ifs : List Expr} {scope : Scope} {own : List (Str × Nat)} {src : MD Src} {mt : D → MD Ro} {tt : MD Bool} {te : MD D}
abbrev BlkF (W : Wd) (c : Ct) (scope : Scope) (X : Cx) (φ : Cx → List Addr → Prop) : Prop := ∀ (s : Shared) (H : Hp) (C : Addr) (cl : List (Str × Addr)) (fp : List Addr) (F : List Addr), φ (X.blk s H scope (compEnvC scope cl C X.env) fp) F
theorem Bx.lc (b : Bx W c E X) (k : Bool) (own : List (Str × Nat)) (ok : BlkOk c.N c.sc scope own) (hi : PI X tg iter (TIx (W.g.wF F) E src))
    (h : ∀ X' F', Bx W (c.blk scope) E0 X' → PG X' tg (tgR (W.g.wF F') E0 (own.map (·.2)) mt) ∧ PTs X' ifs (TXb (W.g.wF F') E0 tt) ∧ PE X' elt (TX (W.g.wF F') E0 te)) (hs : ∀ x, foldedSetIterable iter X.env x = pure x) :
    PE X (.ListComp elt [⟨tg, iter, ifs, 0⟩] scope pos) (TX (W.g.wF F) E (mLc k (own.map (·.2)) src mt tt te)) :=
  me_lc b.calm (by rw [b.N]; exact b.nd) hi (by rw [b.N, b.sc]; exact ok) (fun s H C cl fp F' => (h _ F' (b.blk ok.kind)).1) (fun s H C cl fp F' => (h _ F' (b.blk ok.kind)).2.1) (fun s H C cl fp F' => (h _ F' (b.blk ok.kind)).2.2) hs
def swB (c : Ct) (scope : Scope) (y : Str) (l m : Nat) : Bool := c.sc.names.lookup y == some .local && l == m && !(scope.names.any fun (n, k) => n == y && (k == .local || k == .cell))
/-- name = [..] -/
theorem Bx.setLc (b : Bx W c E X) (k : Bool) {y : Str} {py spos : Pos} (own : List (Str × Nat)) (ok : BlkOk c.N c.sc scope own) (hy : setB c i y = true) (hi : PI X tg iter (TIx (W.g.wF F) E src))
    (h : ∀ X' F', Bx W (c.blk scope) E0 X' → PG X' tg (tgR (W.g.wF F') E0 (own.map (·.2)) mt) ∧ PTs X' ifs (TXb (W.g.wF F') E0 tt) ∧ PE X' elt (TX (W.g.wF F') E0 te)) (hs : ∀ x, foldedSetIterable iter X.env x = pure x) :
    PS X (.Assign [.Name y py] (.ListComp elt [⟨tg, iter, ifs, 0⟩] scope pos) spos) (TSx (W.g.wF F) E (sAsg (mLc k (own.map (·.2)) src mt tt te) (tgName i))) := by
  obtain ⟨h1, h2, h3, h4⟩ := b.setI hy
  by_cases hw : (X.env.blockKind == .function && X.env.kindOf y == some .local && py.line == pos.line && !(scope.names.any fun (n, k) => n == y && (k == .local || k == .cell))) = true
  · simp only [Bool.and_eq_true, beq_iff_eq, Bool.not_eq_true'] at hw
    exact ms_setLc b.calm h4 h1 (show X.env.scope.names.lookup y = some .local from hw.1.1.2) (by rw [b.sc]; exact b.kd) (by simpa using hw.1.2) hw.2 hi (by rw [b.N, b.sc]; exact ok) (fun s H C cl fp F' => (h _ F' (b.blk ok.kind)).1) (fun s H C cl fp F' => (h _ F' (b.blk ok.kind)).2.1) (fun s H C cl fp F' => (h _ F' (b.blk ok.kind)).2.2) hs
  · exact ms_setLc2 h4 h1 h2 h3 (Bool.not_eq_true _ ▸ hw) (b.lc k own ok hi h hs)
end
def mYes : MD Bool := fun _ s => .ok true s
theorem r_ifs0 {g : G} : PTs X [] (TXb g E mYes) := mts_nil
theorem r_ifs1 {g : G} {m : MD Bool} (h : PT X e (TXb g E m)) : PTs X [e] (TXb g E m) := mts_one h
structure Sx (W : Wd) (c : Ct) (E : XK) (X : Cx) : Prop extends Bx W c E X where
  own : PassesOwn (model X.prog X.w) X.A X.env X.xe
  tk : tkN W.nn X (fun cls d _ H => E cls d H)
  ex0 : X.ex = []
  stk : X.stack = X.env :: X.outer
  frm : X.env.frame = some X.env.locals
section
variable {st : Stmt} {rest body : List Stmt} {tg iter : Expr} {vs : List Nat} {t : D → MD Ro} {m : MD D} {mt : MD Bool} {sa sb : MD Fl}
theorem Bx.par (b : Bx W c E X) {k : Nat} {x y : Str} {a d : Expr} {px py pt pt2 : Pos} {kt k2 : Nat} (hi : c.N[i]? = some x) (hj : c.N[k]? = some y) (hij : i ≠ k) (hp : parC c.sc x y px py a d = true) (ha : AR X [a, d] (W.g.wF F) E 2 ms) :
    PS X (.Assign [.Tuple [.Name x px, .Name y py] kt pt] (.Tuple [a, d] k2 pt2) pos) (TSx (W.g.wF F) E (sPar i k ms)) :=
  ms_par b.calm (by rw [b.sc]; exact b.kd) (by rw [b.N]; exact b.nd) (by rw [b.N]; exact hi) (by rw [b.N]; exact hj) hij (by rw [b.sc]; exact hp) ha.pa
theorem Bx.augA (b : Bx W c E X) {pos' : Pos} (h : setB c i x = true) (he : PE X e (TX (W.g.wF F) E m)) : PS X (.AugAssign (.Name x pos') .Add e pos) (TSx (W.g.wF F) E (sAug false i m)) :=
  let ⟨h1, h2, h3, h4⟩ := b.setI h
  ms_augA h4 h1 h2 h3 he
theorem Bx.augS (b : Bx W c E X) {pos' : Pos} (h : setB c i x = true) (he : PE X e (TX (W.g.wF F) E m)) : PS X (.AugAssign (.Name x pos') .Sub e pos) (TSx (W.g.wF F) E (sAug true i m)) :=
  let ⟨h1, h2, h3, h4⟩ := b.setI h
  ms_augS h4 h1 h2 h3 he
theorem Bx.setF (b : Bx W c E X) {q k : Nat} {f : Str} {pos' : Pos} (C : ClsOk W.g q) (hk : (W.g.cf q)[k]? = some f) (ho : PE X o (TX (W.g.wF F) E ma)) (he : PE X e (TX (W.g.wF F) E m)) : PS X (.Assign [.Attribute o f pos'] e pos) (TSx (W.g.wF F) E (sSetF q k m ma)) :=
  ms_setF b.gK ⟨C.cl, C.no, C.nd, C.few⟩ hk ho he
theorem Sx.for_ (b : Sx W c E X) (hi : PI X tg iter (TIx (W.g.wF F) E src)) (hg : PG X tg (tgR (W.g.wF F) E vs t)) (hb : PSs X body (TSx (W.g.wF F) E sb)) (hs : ∀ x, foldedSetIterable iter X.env x = pure x) : PS X (.For tg iter body [] pos) (TSx (W.g.wF F) E (sFor src t sb)) :=
  ms_for b.own b.calm hi hg hb hs
theorem Sx.forD (b : Sx W c E X) (hi : PE X iter (TX (W.g.wF F) E m)) (hg : PG X tg (tgR (W.g.wF F) E vs t)) (hb : PSs X body (TSx (W.g.wF F) E sb)) (hs : ∀ x, foldedSetIterable iter X.env x = pure x) : PS X (.For tg iter body [] pos) (TSx (W.g.wF F) E (sForD m t sb)) :=
  ms_forD b.own b.calm hi hg hb hs
theorem Sx.whileN (b : Sx W c E X) (n : Nat) (hc : PT X e (TXb (W.g.wF F) E mt)) (hb : PSs X body (TSx (W.g.wF F) E sb)) : PS X (.While e body [] pos) (TSx (W.g.wF F) E (whileM mt sb n)) := ms_whileN n b.own hc hb
theorem Sx.while_ (b : Sx W c E X) (hc : PT X e (TXb (W.g.wF F) E mt)) (hb : PSs X body (TSx (W.g.wF F) E sb)) : PS X (.While e body [] pos) (TSx (W.g.wF F) E (sWhile mt sb)) := ms_while b.own hc hb
end
end
def callM (n : Nat) (m : MD Fl) : List D → Sto → Rs D := fun ds s => (m (ds.map some ++ List.replicate (n - ds.length) none) s).bind fun f s => match f with
  | .nx _ => .ok .non s
  | .ret d => .ok d s
  | _ => .bad
theorem env_start {g : G} {H : Hp} {al : List Addr} {vs : List V} {ds : List D} {N : List Str} (r : Reps g H al vs ds) : EnvR g H al (L2.start N vs) (ds.map some ++ List.replicate (N.length - ds.length) none) := by
  unfold L2.start
  have hl := r.length
  refine ⟨by simp [hl], fun i d h => ?_⟩
  by_cases hi : i < ds.length
  · rw [List.getElem?_append_left (by simpa using hi)] at h
    rw [List.getElem?_append_left (by simpa [hl] using hi)]
    rw [List.getElem?_map] at h ⊢
    cases e : ds[i]? with
    | none => rw [e] at h; cases h
    | some d' =>
      rw [e] at h; cases h
      obtain ⟨v, h1, h2⟩ := r.get e
      exact ⟨v, by rw [h1]; rfl, h2⟩
  · rw [List.getElem?_append_right (by simpa using hi)] at h
    rw [List.getElem?_replicate] at h
    split at h <;> cases h
theorem fn_def {W : Wd} {N ps : List Str} {st : Stmt} {f : Addr} {name qual : Str} {dV kV doc pm cdv ct oc : Value} {an od : Option Addr} {osl : Array (Option Value)} {m : MD Fl}
    (lk : W.g.K.lookup f = some ⟨oc, od, .func (PySem.W.fnOf name qual (defArgs st) (defBody st) (defScope st) dV kV doc pm an cdv ct), osl⟩) (hcd : PySem.W.codeIn W.g.K cdv qual = true) (S : FnScope N ps (defScope st))
    (hm : ∀ F E X, Sx W ⟨N, defScope st, fun _ => true⟩ E X → PSs X (defBody st) (TSx (W.g.wF F) E m)) :
    FnOk W.P W.w W.g.K W.mg W.base (cxN W.nn W.P W.w) (W.kk + 2) f (PySem.W.fnOf name qual (defArgs st) (defBody st) (defScope st) dV kV doc pm an cdv ct) ps (spOf W.g ps.length (callM N.length m)) := by
  refine fn_of (k := W.kk + 1) lk hcd S (fun vs H Q E h => h.1) fun A outer s H vs Q E hr hsp => ?_
  obtain ⟨hl, F, ds, al, s0, rs, st0, p⟩ := hsp
  have tk := takesN_of (nn := W.nn) (X := cxOf (cxN W.nn W.P W.w) W.P W.w W.g.K W.mg W.base N qual (defScope st) f cdv A outer s H E) (E := E) rfl rfl rfl rfl
  have b : Sx W ⟨N, defScope st, fun _ => true⟩ E (cxOf (cxN W.nn W.P W.w) W.P W.w W.g.K W.mg W.base N qual (defScope st) f cdv A outer s H E) :=
    ⟨⟨rfl, rfl, rfl, rfl, rfl, rfl, rfl, rfl, S.nd, rfl, S.kind, hr, passesN tk fun _ _ _ _ h => h⟩, passes_of rfl, tk, rfl, rfl, rfl⟩
  refine ⟨_, hm F E _ b, _, al, s0, env_start rs, st0, ?_⟩
  refine Post.bind p fun fl s1 fv H1 al1 _ t1 st1 rf p1 => ?_
  cases fl <;> cases fv <;> first | exact rf.elim | skip
  · exact p1 _ _ _ .refl st1 .non
  · exact p1 _ _ _ .refl st1 rf
  · exact p1.elim
  · exact p1.elim
theorem FnOk.sub {W : Wd} {k n : Nat} {f : Addr} {fd : FuncData} {ps : List Str} {φ ψ : List D → Sto → Rs D} (F : FnOk W.P W.w W.g.K W.mg W.base (cxN W.nn W.P W.w) k f fd ps (spOf W.g n φ)) (h : ∀ ds s, ψ ds s = .bad ∨ φ ds s = ψ ds s) :
    FnOk W.P W.w W.g.K W.mg W.base (cxN W.nn W.P W.w) k f fd ps (spOf W.g n ψ) := fn_sub F h
theorem walk {l : PySem.W.OpenLaw} {k : Nat} {q : Program} {loose : List Str} {XP : (Str → Option Value) → Heap → Prop} {YP : World → Heap → Prop} {d : DefRec} {K : Params → PySem.W.Frag} {x : Str} {φ : List D → Sto → Rs D}
    (hn : l.most = some 63) (hdf : d.params.defaults = []) (hr : Room k callerA)
    (hY : ∀ (w : World) (h : Heap), YP w h → (K w.params).In h)
    (F : ∀ (w : World) (mg : Str → Option Value) (fa : Addr) (h : Heap), (K w.params).In h → h.Ns mainGlobals mg → mg d.name = some (.ref fa) →
      ∃ (fd : FuncData) (g : G), g.K = K w.params ∧ (∀ (s : Shared) (u : Value), BindsTo s fd ⟨[u], []⟩ [(x, u)]) ∧
        ∀ base : Heap, (K w.params).In base → base.Ns mainGlobals mg → FnOk l.prog w (K w.params) mg base (L2.CX l.prog w) k fa fd [x] (spOf g 1 φ))
    (hφ : ∀ ns : List Int, ns.length ≤ 63 → (∀ z ∈ ns, Builtin.Int.intBits z ≤ 1048576) → ∃ s, φ [.frz (ns.map D.int)] [] = .ok (.bl true) s) :
    PySem.W.WalkO q loose XP YP l.row.toRowW d [] (fun f vs => PySem.call f vs) := by
  refine L2.walk_ofB (n := 63) (k := k) (x := x) (CX := fun w => L2.CX l.prog w) (sp := fun w => fun vs H Q E => ∀ g : G, g.K = K w.params → spOf g 1 φ vs H Q E) hn (by decide) hdf hr hY (fun w mg fa h hK hns hmg => ?_) (fun w H a ns hl hb hO hS g hg => ?_) (fun w H s e s' h => ?_)
  · obtain ⟨fd, g, h1, h2, h3⟩ := F w mg fa h hK hns hmg
    exact ⟨fd, h2, fun base k1 k2 => (h3 base k1 k2).imp fun vs H Q E z => z g h1⟩
  · obtain ⟨s, e⟩ := hφ ns hl hb
    have st : StOk (g.wF []) H [] [] := ⟨rfl, .nil, (fun a m => nomatch m), (fun a m => nomatch m), fun n p c e1 => by simp at e1⟩
    have rp : Rep (g.wF []) H [] (.ref a) (.frz (ns.map D.int)) := by
      rcases hS with (h1 | ⟨o, h1⟩) | h1
      · rcases hO a with z | ⟨o, xs, z⟩ <;> (rw [z] at h1; cases h1)
      · exact .frz h1 ⟨(fun z => nomatch z), (fun z => nomatch z)⟩ Reps.ints
      · rw [← hg] at h1; exact .frzK h1 Reps.ints
    refine ⟨rfl, ([] : List Addr), [.frz (ns.map D.int)], ([] : List Addr), ([] : Sto), .cons rp .nil, st, ?_⟩
    rw [e]
    exact fun v H' al' t st' r => r.bl_inv
  · obtain ⟨_, _, _, _, _, _, _, _, _, _, _, _, z⟩ := h
    exact z.elim
end Mx
namespace Mx
open PySem L2 RZ RT
section
variable {W : Wd} {c : Ct} {E : XK} {X : Cx} {F : List Addr} {x : Str} {i n j : Nat} {pos p apos : Pos} {e a o : Expr} {es : List Expr} {ma mb : MD D} {ms mk : MD (List D)} {φ : List D → Sto → Rs D} {dds : List D}
structure KR (X : Cx) (kws : List Keyword) (g : G) (E : XK) (n : Nat) (ms : MD (List D)) : Prop where
  pk : PK X kws (TXs g E ms)
  len : Len n ms
theorem kr_nil {g : G} : KR X [] g E 0 mNil := ⟨⟨fun pos pins s σ H Q I ⟨ρ, al, s', er, st, p⟩ => pk_nil.run pos pins s σ H Q I (p _ _ _ .refl st .nil)⟩, len_nil⟩
theorem kr_cons {g : G} {kws : List Keyword} {nm : Option Str} {kpos : Pos} (he : PE X e (TX g E ma)) (hs : KR X kws g E n ms) : KR X (⟨nm, e, kpos⟩ :: kws) g E (n + 1) (mCons ma ms) :=
  ⟨⟨fun pos pins s σ H Q I h => (pk_cons he hs.pk).run pos pins s σ H Q I (TG.bind (k := fun x ρ s => (ms ρ s).bind fun xs s => .ok (x :: xs) s) h fun d v H1 al1 ρ s1 e st rp p =>
    ⟨ρ, al1, s1, e, st, Post.bind p fun d2 s2 w H2 al2 _ t st2 rp2 p2 => p2 _ _ _ .refl st2 (.cons (rp.tr t) rp2)⟩)⟩, len_cons hs.len⟩
structure CallKW (W : Wd) (x : Str) (n m : Nat) (ks : List Str) (φ : List D → Sto → Rs D) (gD : List D → List D → List D) : Prop where
  ex : ∃ (f : Addr) (fd : FuncData) (ps : List Str) (gv : List Value → List Value → List Value) (gV : List V → List V → List V), FnOk W.P W.w W.g.K W.mg W.base (cxN W.nn W.P W.w) W.kk f fd ps (spOf W.g n φ) ∧ W.mg x = some (.ref f) ∧ PySem.W.keepIn W.g.K (.ref f) = true ∧ KBn W.g.K fd ps m ks gv gV ∧
    ∀ F H al vs ds zs es, Reps (W.g.wF F) H al vs ds → Reps (W.g.wF F) H al zs es → vs.length = m → zs.length = ks.length → (gV vs zs).length = n ∧ Reps (W.g.wF F) H al (gV vs zs) (gD ds es)
def mCallK (φ : List D → Sto → Rs D) (gD : List D → List D → List D) (ms mk : MD (List D)) : MD D := fun ρ s => (ms ρ s).bind fun ds s => (mk ρ s).bind fun es s => φ (gD ds es) s
theorem Bx.callK (b : Bx W c E X) {ks : List Str} {kws : List Keyword} {gD : List D → List D → List D} {m : Nat} (h : CallKW W x n m ks φ gD) (hg : glB c x = true) (ha : AR X (e :: es) (W.g.wF F) E m ms) (hk : KR X kws (W.g.wF F) E ks.length mk)
    (hall : (backToKw pos (keywordEach kws X.env)).all (·.1.isSome) = true := by rfl) (hks : (backToKw pos (keywordEach kws X.env)).filterMap (·.1) = ks := by rfl)
    (hpl : ((backTo pos (starEach (e :: es) X.env)).any (·.1) || (backToKw pos (keywordEach kws X.env)).any (·.1.isNone)) = false := by rfl) :
    PE X (.Call (.Name x p) (e :: es) kws pos) (TX (W.g.wF F) E (mCallK φ gD ms mk)) := by
  obtain ⟨f, fd, ps, gv, gV, hF, hm, hkp, hb, hr⟩ := h.ex
  obtain ⟨g1, g2, g3⟩ := b.glo hg
  have hpl0 := ha.pl
  rw [List.all_cons, Bool.and_eq_true] at hpl0
  refine pe_mono (pe_callN (b.fnok (F := F) hF) (b.room.mono (Nat.le_succ _)) g1 (by rw [b.mg]; exact hm) (by rw [b.K]; exact hkp) (by rw [b.K]; exact hb) b.pass ha.pa hk.pk hall hks g2 (star_cons hpl0.1) hpl) fun σ H Q ⟨ρ, al, s, er, st, q⟩ => ?_
  refine ⟨ρ, al, s, er, st, Post.bind q fun ds s1 vs H1 al1 h1 t1 st1 rs1 q1 => ⟨ρ, al1, s1, er.tr t1, st1, Post.bind q1 fun es2 s2 zs H2 al2 h2 t2 st2 rs2 q2 => ?_⟩⟩
  have l1 : vs.length = m := by rw [rs1.length]; exact ha.len _ _ _ _ h1
  have l2 : zs.length = ks.length := by rw [rs2.length]; exact hk.len _ _ _ _ h2
  obtain ⟨e1, e2⟩ := hr F H2 al2 vs ds zs es2 (rs1.tr t2) rs2 l1 l2
  exact ⟨l1, l2, e1, F, gD ds es2, al2, s2, e2, st2, q2⟩
end
section
variable {W : Wd} {N ps : List Str} {st : Stmt} {x qual : Str} {f : Addr} {fd : FuncData} {m : MD Fl} {dvs : List V} {kws : List (Str × V)} {k n : Nat} {φ : List D → Sto → Rs D}
theorem fn_defD (F : FunD W.g.K x qual (defArgs st) (defBody st) (defScope st) dvs kws f fd) (S : FnScope N ps (defScope st)) (hm : ∀ F E X, Sx W ⟨N, defScope st, fun _ => true⟩ E X → PSs X (defBody st) (TSx (W.g.wF F) E m)) :
    FnOk W.P W.w W.g.K W.mg W.base (cxN W.nn W.P W.w) (W.kk + 2) f fd ps (spOf W.g ps.length (callM N.length m)) := by
  obtain ⟨oc, od, dV, kV, doc, pm, an, cdv, ct, osl, rfl, lk, hcd, _, _⟩ := F.ex
  exact fn_def lk hcd S hm
theorem callW_of (O : FnOk W.P W.w W.g.K W.mg W.base (cxN W.nn W.P W.w) k f fd ps (spOf W.g n φ)) (hk : k ≤ W.kk) (hm : W.mg x = some (.ref f)) (hkp : PySem.W.keepIn W.g.K (.ref f) = true) (hb : Binds W.g.K fd ps []) : CallW W x n φ [] :=
  ⟨f, fd, ps, [], [], O.mono hk, hm, hkp, hb, .nil, fun _ _ _ => .nil⟩
/-- with defaults that fill up: plain values -/
def plainV : D → Option V
  | .non => some .non | .bl b => some (.bl b) | .int i => some (.int i) | .str x => some (.str x)
  | _ => none
theorem plainV_ok {d : D} {v : V} (h : plainV d = some v) {g : G} {H : Hp} {al : List Addr} : Rep g H al v d := by
  cases d <;> first | (cases h; done) | skip
  · cases h; exact .non
  · cases h; exact .bl _
  · cases h; exact .int _
  · cases h; exact .str _
theorem plainVs_ok : ∀ {ds : List D} {vs : List V}, allSome (ds.map plainV) = some vs → ∀ {g : G} {H : Hp} {al : List Addr}, Reps g H al vs ds
  | [], _, h, g, H, al => by
    have h' : (some [] : Option (List V)) = some _ := h
    cases h'
    exact .nil
  | d :: ds, vs, h, g, H, al => by
    rw [List.map_cons] at h
    cases e : plainV d with
    | none => rw [e] at h; cases h
    | some v =>
      rw [e] at h
      have h' : (allSome (ds.map plainV)).map (v :: ·) = some vs := h
      cases e2 : allSome (ds.map plainV) with
      | none => rw [e2] at h'; cases h'
      | some us =>
        rw [e2] at h'; cases h'
        exact .cons (plainV_ok e) (plainVs_ok e2)
theorem callW_dfl {dds : List D} {vs : List V} (O : FnOk W.P W.w W.g.K W.mg W.base (cxN W.nn W.P W.w) k f fd ps (spOf W.g n φ)) (hk : k ≤ W.kk) (hm : W.mg x = some (.ref f)) (hkp : PySem.W.keepIn W.g.K (.ref f) = true) (hb : ∃ ds, Vals vs ds ∧ Binds W.g.K fd ps ds) (hd : allSome (dds.map plainV) = some vs) : CallW W x n φ dds :=
  let ⟨ds, h1, h2⟩ := hb
  ⟨f, fd, ps, ds, vs, O.mono hk, hm, hkp, h2, h1, fun _ _ _ => plainVs_ok hd⟩
theorem makeW_of {C : Addr} {q : Nat} (O : FnOk W.P W.w W.g.K W.mg W.base (cxN W.nn W.P W.w) k f fd ps (spOf W.g n φ)) (hk : k ≤ W.kk) (M : Mk W.g.K C f) (hC : W.g.ca q = C) (hm : W.mg x = some (.ref C)) (hb : Binds W.g.K fd ps []) : MakeW W x q n φ [] :=
  ⟨C, f, fd, ps, [], [], M, hC, O.mono hk, hm, hb, .nil, fun _ _ _ => .nil⟩
theorem makeW_dfl {C : Addr} {q : Nat} {dds : List D} {vs : List V} (O : FnOk W.P W.w W.g.K W.mg W.base (cxN W.nn W.P W.w) k f fd ps (spOf W.g n φ)) (hk : k ≤ W.kk) (M : Mk W.g.K C f) (hC : W.g.ca q = C) (hm : W.mg x = some (.ref C)) (hb : ∃ ds, Vals vs ds ∧ Binds W.g.K fd ps ds) (hd : allSome (dds.map plainV) = some vs) : MakeW W x q n φ dds :=
  let ⟨ds, h1, h2⟩ := hb
  ⟨C, f, fd, ps, ds, vs, M, hC, O.mono hk, hm, h2, h1, fun _ _ _ => plainVs_ok hd⟩
/-- keywords (no keyword-only parameters): us ++ ws, all given -/
theorem kbn_all {dvs : List V} {params : Arguments} {body : List Stmt} {scope : Scope} {K : PySem.W.Frag} (F : FunD K x qual params body scope dvs kws f fd) (n : Nat) (ks : List Str) (hd : dvs ≠ [])
    (h : ∀ (T : Addr) (kV doc pm : Value) (an : Option Addr) (cdv ct : Value) (us its ws : List Value), us.length = n → its.length = dvs.length → ws.length = ks.length →
      ∃ k, bindArgs (PySem.W.fnOf x qual params body scope (.ref T) kV doc pm an cdv ct) ⟨us, ks.zip ws⟩ = seqItems? (.ref T) >>= k ∧ k (some its.toArray) = pure (ps.zip (us ++ ws))) :
    KBn K fd ps n ks (fun us ws => us ++ ws) (fun vs zs => vs ++ zs) := by
  obtain ⟨oc, od, dV, kV, doc, pm, an, cdv, ct, osl, rfl, lk, hcd, hD, hK⟩ := F.ex
  rcases hD with ⟨e, _⟩ | ⟨_, T, o, its, m, rfl, lT, oT, rT⟩
  · exact absurd e hd
  · refine ⟨fun s us ws X l1 l2 => ?_, fun r1 r2 => r1.append r2⟩
    obtain ⟨k, e1, e2⟩ := h T kV doc pm an cdv ct us its ws l1 rT.length.symm l2
    refine BindsTo.of_looks fun M => ?_
    rw [e1]
    exact looks_items X lT oT (.of_pure e2)
theorem callKW_of {ks : List Str} {j : Nat} (O : FnOk W.P W.w W.g.K W.mg W.base (cxN W.nn W.P W.w) k f fd ps (spOf W.g n φ)) (hk : k ≤ W.kk) (hm : W.mg x = some (.ref f)) (hkp : PySem.W.keepIn W.g.K (.ref f) = true) (hb : KBn W.g.K fd ps j ks (fun us ws => us ++ ws) (fun vs zs => vs ++ zs)) (hn : j + ks.length = n) :
    CallKW W x n j ks φ (fun ds es => ds ++ es) :=
  ⟨f, fd, ps, _, _, O.mono hk, hm, hkp, hb, fun F H al vs ds zs es r1 r2 l1 l2 => ⟨by rw [List.length_append, l1, l2, hn], r1.append r2⟩⟩
theorem plW_of {q : Nat} {C : Addr} (M : MkPl W.g.K C) (hC : W.g.ca q = C) (hm : W.mg x = some (.ref C)) : PlW W x q := ⟨C, M, hC, hm⟩
end
section
open He
end
theorem walkM {l : PySem.W.OpenLaw} {k : Nat} {q : Program} {loose : List Str} {XP : (Str → Option Value) → Heap → Prop} {YP : World → Heap → Prop} {d : DefRec} {x : Str} {φ : List D → Sto → Rs D}
    (hn : l.most = some 63) (hdf : d.params.defaults = []) (hr : Room k callerA)
    (F : ∀ (w : World) (mg : Str → Option Value) (fa : Addr) (h : Heap), YP w h → h.Ns mainGlobals mg → mg d.name = some (.ref fa) →
      ∃ (K : PySem.W.Frag) (fd : FuncData) (g : G), K.In h ∧ g.K = K ∧ (∀ (s : Shared) (u : Value), BindsTo s fd ⟨[u], []⟩ [(x, u)]) ∧
        ∀ base : Heap, K.In base → base.Ns mainGlobals mg → FnOk l.prog w K mg base (L2.CX l.prog w) k fa fd [x] (spOf g 1 φ))
    (hφ : ∀ ns : List Int, ns.length ≤ 63 → (∀ z ∈ ns, Builtin.Int.intBits z ≤ 1048576) → ∃ s, φ [.frz (ns.map D.int)] [] = .ok (.bl true) s) :
    PySem.W.WalkO q loose XP YP l.row.toRowW d [] (fun f vs => PySem.call f vs) := by
  refine Att.attach_callB hn hdf fun w s₀ s₁ mg mb fa o pm cd doc a vs ns G Y ho hd hcd hmg hobj hints hlen hbits hg => ?_
  obtain ⟨K, fd, g, KX, hgK, hb, hF⟩ := F w mg fa _ Y G.T.g hmg
  refine law_call KX G.T.g G.T.b G.T.builtins G.T.nolimit hg hobj hints (Nat.le_trans hlen (by decide)) hr hF hb (fun H hO hS => ?_) fun H e s' h => ?_
  · obtain ⟨s, e⟩ := hφ ns hlen hbits
    have st : StOk (g.wF []) H [] [] := ⟨rfl, .nil, (fun a m => nomatch m), (fun a m => nomatch m), fun n p c e1 => by simp at e1⟩
    have rp : Rep (g.wF []) H [] (.ref a) (.frz (ns.map D.int)) := by
      rcases hS with (h1 | ⟨o, h1⟩) | h1
      · rcases hO a with z | ⟨o, xs, z⟩ <;> (rw [z] at h1; cases h1)
      · exact .frz h1 ⟨(fun z => nomatch z), (fun z => nomatch z)⟩ Reps.ints
      · rw [← hgK] at h1; exact .frzK h1 Reps.ints
    refine ⟨rfl, ([] : List Addr), [.frz (ns.map D.int)], ([] : List Addr), ([] : Sto), .cons rp .nil, st, ?_⟩
    rw [e]
    exact fun v H' al' t st' r => r.bl_inv
  · obtain ⟨_, _, _, _, _, _, _, _, _, _, _, _, z⟩ := h
    exact z.elim
end Mx
namespace Mx
open PySem L2 RZ RT
section
variable {W : Wd} {c : Ct} {E : XK} {X : Cx} {F : List Addr} {x : Str} {i n j : Nat} {pos p apos : Pos} {e a o : Expr} {es : List Expr} {ma mb m : MD D} {ms mk : MD (List D)} {φ : List D → Sto → Rs D} {dds : List D}
abbrev FldW (W : Wd) (f : Str) (ix : Nat → Option Nat) : Prop := ∀ q k, ix q = some k → ClsOk W.g q ∧ (W.g.cf q)[k]? = some f
def mFldD (ix : Nat → Option Nat) (a : MD D) : MD D := fun ρ s => (a ρ s).bind fun x s => optD (clsD x s) fun q => optD (ix q) fun k => fldD q k x s
theorem Bx.fldD (b : Bx W c E X) {f : Str} {ix : Nat → Option Nat} (h : FldW W f ix) (ha : PE X a (TX (W.g.wF F) E ma)) (hb : baseOk a = true) : PE X (.Attribute a f pos) (TX (W.g.wF F) E (mFldD ix ma)) :=
  pe_mono (pe_fld ha (base_of hb)) fun σ H Q hh => TG.bind (k := fun x _ s => optD (clsD x s) fun q => optD (ix q) fun k => Mx.fldD q k x s) hh fun x v H1 al1 ρ s1 e st rp p => by
    obtain ⟨q, eq, p⟩ := optD_inv (β := Nat) (γ := Nat) p
    obtain ⟨k, ek, p⟩ := optD_inv (β := Nat) (γ := Nat) p
    obtain ⟨C, hk⟩ := h q k ek
    unfold Mx.fldD at p
    obtain ⟨ds, e0, p⟩ := optD_inv (β := Nat) (γ := Nat) p
    obtain ⟨d, e1, p⟩ := optD_inv (β := Nat) (γ := Nat) p
    obtain ⟨pa, dx, vs, rfl, e2, l, rs⟩ := asO_ok st rp e0
    obtain ⟨u, h1, h2⟩ := rs.get e1
    exact ⟨pa, _, dx, _, u, rfl, e2, by rw [b.K]; exact C.cl, by rw [b.K]; exact C.no f (List.mem_of_getElem? hk), lookup_zip C.nd hk h1, p _ _ _ .refl st h2⟩
def sSetFD (ix : Nat → Option Nat) (m mo : MD D) : MD Fl := fun ρ s => (m ρ s).bind fun d s => (mo ρ s).bind fun x s => optS (clsD x s) fun q => optS (ix q) fun k => optS (setFD q k d x s) fun s => .ok (.nx ρ) s
theorem Bx.setFD (b : Bx W c E X) {f : Str} {ix : Nat → Option Nat} {pos' : Pos} (h : FldW W f ix) (ho : PE X o (TX (W.g.wF F) E ma)) (he : PE X e (TX (W.g.wF F) E m)) : PS X (.Assign [.Attribute o f pos'] e pos) (TSx (W.g.wF F) E (sSetFD ix m ma)) := by
  refine ps_mono (ps_fld ho he sw_attr) fun En σ H ⟨ρ, al, s, er, st, p⟩ => ?_
  refine ⟨ρ, al, s, er, st, Post.bind p fun d s1 v H1 al1 hq t st1 rd p1 => ⟨ρ, al1, s1, er.tr t, st1, Post.bind p1 fun x s2 w H2 al2 hq2 t2 st2 rx p2 => ?_⟩⟩
  clear hq hq2
  obtain ⟨q, eq, p4⟩ := optS_inv p2
  obtain ⟨k, ek, p5⟩ := optS_inv p4
  clear p2 p4
  obtain ⟨C, hk⟩ := h q k ek
  obtain ⟨s3, e3, p3⟩ := optS_inv p5
  clear p5
  unfold Mx.setFD at e3
  cases x <;> first | (cases e3; done) | skip
  rename_i n
  cases ec : cellO q s2[n]? with
  | none => simp only [ec] at e3; cases e3
  | some ds =>
    simp only [ec] at e3
    cases rx with
    | ref hp =>
      obtain ⟨dx, vs, e1, hl, rs⟩ := st2.cell n _ _ hp (cellO_inv ec)
      have few := C.few
      refine ⟨_, W.g.ca q, dx, _, rfl, e1, by rw [b.K]; exact C.cl, by rw [b.K]; exact C.no f (List.mem_of_getElem? hk), by rw [List.length_zip]; show min (W.g.cf q).length _ < _; omega, ?_⟩
      have er2 := (er.tr t).tr t2
      have rd2 := rd.tr t2
      by_cases h1 : k < ds.length
      · rw [if_pos h1] at e3; cases e3
        have e4 : putF f v ((W.g.cf q).zip vs) = (W.g.cf q).zip (vs.set k v) := putF_zip_set C.nd hk (by rw [rs.length]; exact h1)
        have t3 : Tr (W.g.wF F) al2 H2 al2 (upd H2 _ (.ins (W.g.ca q) dx ((W.g.cf q).zip (vs.set k v)))) := .write hp e1 (fun _ _ z => nomatch z)
        show En.nx σ (upd H2 _ (.ins (W.g.ca q) dx (putF f v ((W.g.cf q).zip vs))))
        rw [e4]
        exact dq_ok (fv := .nx σ) (p3.tr t3) (st2.write hp ⟨dx, _, upd_same, by rw [List.length_set]; exact hl, (rs.set rd2 k).tr t3⟩) (er2.tr t3)
      · rw [if_neg h1] at e3
        by_cases h2 : k = ds.length
        · rw [if_pos h2] at e3; cases e3
          have hk' : (W.g.cf q)[vs.length]? = some f := by rw [rs.length, ← h2]; exact hk
          have e4 : putF f v ((W.g.cf q).zip vs) = (W.g.cf q).zip (vs ++ [v]) := putF_zip_next C.nd hk'
          have t3 : Tr (W.g.wF F) al2 H2 al2 (upd H2 _ (.ins (W.g.ca q) dx ((W.g.cf q).zip (vs ++ [v])))) := .write hp e1 (fun _ _ z => nomatch z)
          have hl2 : vs.length < (W.g.cf q).length := (List.getElem?_eq_some_iff.mp hk').1
          show En.nx σ (upd H2 _ (.ins (W.g.ca q) dx (putF f v ((W.g.cf q).zip vs))))
          rw [e4]
          exact dq_ok (fv := .nx σ) (p3.tr t3) (st2.write hp ⟨dx, _, upd_same, by rw [List.length_append, List.length_singleton]; exact hl2, (rs.append (.cons rd2 .nil)).tr t3⟩) (er2.tr t3)
        · rw [if_neg h2] at e3; cases e3
def mIsi (tyB : String → Option Bool) (isA : Nat → Option Bool) (a : MD D) : MD D := fun ρ s => (a ρ s).bind (isiD tyB isA)
structure IsC (W : Wd) (x : Str) (tyB : String → Option Bool) (isA : Nat → Option Bool) : Prop where
  ex : ∃ C, W.mg x = some (.ref C) ∧ IsW W (.ref C) tyB isA
theorem Bx.isiC (b : Bx W c E X) {y : Str} {p2 : Pos} {tyB : String → Option Bool} {isA : Nat → Option Bool} (h : IsC W y tyB isA) (h0 : BltW W "isinstance") (hg : glB c "isinstance" = true) (hy : glB c y = true) (he : PE X e (TX (W.g.wF F) E ma)) (hp : plainE e = true) :
    PE X (.Call (.Name "isinstance" p) [e, .Name y p2] [] pos) (TX (W.g.wF F) E (mIsi tyB isA ma)) := by
  obtain ⟨C, hm, hI⟩ := h.ex
  exact b.isi hI (.own C) (b.cls hm hy) h0 hg he hp
theorem Bx.isiT (b : Bx W c E X) (T : String) {y : Str} {p2 : Pos} {tyB : String → Option Bool} {isA : Nat → Option Bool} (h : IsW W (.type T) tyB isA) (hv : bootBuiltins y = some (.type T)) (h1 : BltW W y) (h0 : BltW W "isinstance") (hg : glB c "isinstance" = true) (hy : glB c y = true) (he : PE X e (TX (W.g.wF F) E ma)) (hp : plainE e = true) :
    PE X (.Call (.Name "isinstance" p) [e, .Name y p2] [] pos) (TX (W.g.wF F) E (mIsi tyB isA ma)) :=
  b.isi h (.ty T) (b.ty T h1 hy hv) h0 hg he hp
def tyL : List String := ["NoneType", "bool", "int", "str", "tuple", "list", "dict"]
def tyT (T t : String) : Option Bool := if tyL.contains t && tyL.contains T then some (t == T || (t == "bool" && T == "int")) else none
theorem tyT_all : ∀ t ∈ tyL, ∀ T ∈ tyL, kitB t T = some (t == T || (t == "bool" && T == "int")) := by decide +kernel
theorem tyT_ok {T t : String} {b : Bool} (h : tyT T t = some b) : kitB t T = some b := by
  unfold tyT at h
  by_cases q : (tyL.contains t && tyL.contains T) = true
  · rw [if_pos q] at h
    rw [Bool.and_eq_true, List.contains_iff_mem, List.contains_iff_mem] at q
    rw [tyT_all t q.1 T q.2, h]
  · rw [if_neg q] at h; cases h
def tyF (t : String) : Option Bool := if tyL.contains t then some false else none
structure GlbW (W : Wd) (x : Str) (d : D) : Prop where
  ex : ∃ u v, W.mg x = some u ∧ RelV v u ∧ ∀ F H al, Rep (W.g.wF F) H al v d
theorem Bx.glb (b : Bx W c E X) {d : D} (h : GlbW W x d) (hg : glB c x = true) : PE X (.Name x pos) (TX (W.g.wF F) E (mC d)) := by
  obtain ⟨u, v, h1, h2, h3⟩ := h.ex
  obtain ⟨g1, g2, g3⟩ := b.glo hg
  exact me_c (pe_glob g1 (by rw [b.mg]; exact h1) h2 g2) fun H al => h3 F H al
end
mutual
/-- no tuple within -/
def ntB : D → Bool
  | .tup _ => false
  | .frz ds => ntBs ds
  | .lst ds => ntBs ds
  | .obj _ _ => false
  | .exv _ _ => false
  | .twn _ _ => false
  | .ref _ => false
  | _ => true
def ntBs : List D → Bool
  | [] => true
  | d :: ds => ntB d && ntBs ds
end
theorem chk_ok {K : PySem.W.Frag} : ∀ (n : Nat), (∀ (u : Value) (d : D), chkD K n u d = true → ∃ v, RelV v u ∧ ∀ (g : G) H al, g.K = K → (ktB = true ∨ ntB d = true) → Rep g H al v d) ∧ (∀ (us : List Value) (ds : List D), chkDs K n us ds = true → ∃ vs, Vals vs us ∧ ∀ (g : G) H al, g.K = K → (ktB = true ∨ ntBs ds = true) → Reps g H al vs ds) := by
  intro n
  induction n with
  | zero =>
    refine ⟨fun u d h => ?_, fun us ds h => ?_⟩
    · cases u <;> cases d <;> first | (simp [chkD] at h; done) | skip
      · exact ⟨.non, rfl, fun _ _ _ _ _ => .non⟩
      · rename_i b k; have : b = k := by simpa [chkD] using h
        subst this; exact ⟨.bl b, rfl, fun _ _ _ _ _ => .bl _⟩
      · rename_i j t i; have : i = j := by simpa [chkD] using h
        subst this; exact ⟨.int i, ⟨t, rfl⟩, fun _ _ _ _ _ => .int _⟩
      · rename_i j t i; have : i = j := by simpa [chkD] using h
        subst this; exact ⟨.str i, ⟨t, rfl⟩, fun _ _ _ _ _ => .str _⟩
    · cases us <;> cases ds <;> first | (simp [chkDs] at h; done) | skip
      exact ⟨[], .nil, fun _ _ _ _ _ => .nil⟩
  | succ n ih =>
    refine ⟨fun u d h => ?_, fun us ds h => ?_⟩
    · cases u <;> cases d <;> first | (simp [chkD] at h; done) | skip
      · exact ⟨.non, rfl, fun _ _ _ _ _ => .non⟩
      · rename_i b k; have : b = k := by simpa [chkD] using h
        subst this; exact ⟨.bl b, rfl, fun _ _ _ _ _ => .bl _⟩
      · rename_i j t i; have : i = j := by simpa [chkD] using h
        subst this; exact ⟨.int i, ⟨t, rfl⟩, fun _ _ _ _ _ => .int _⟩
      · rename_i j t i; have : i = j := by simpa [chkD] using h
        subst this; exact ⟨.str i, ⟨t, rfl⟩, fun _ _ _ _ _ => .str _⟩
      · rename_i a ds
        rw [chkD] at h
        split at h
        · rename_i c od its m sl q
          simp only [Bool.and_eq_true, decide_eq_true_eq] at h
          obtain ⟨vs, h1, h2⟩ := ih.2 _ _ h.2.2
          refine ⟨.ref a, rfl, fun g H al hg hk => .tupK (hk.elim id fun z => nomatch z) ⟨_, its, m, by rw [hg]; exact q, by rw [h.1], rfl, h.2.1, h1⟩ (h2 g H al hg (.inl (hk.elim id fun z => nomatch z)))⟩
        · cases h
      · rename_i a ds
        rw [chkD] at h
        split at h
        · rename_i c its m sl q
          simp only [Bool.and_eq_true, decide_eq_true_eq] at h
          obtain ⟨vs, h1, h2⟩ := ih.2 _ _ h.2.2
          refine ⟨.ref a, rfl, fun g H al hg hk => .frzK ⟨_, its, m, by rw [hg]; exact q, by rw [h.1], rfl, rfl, h.2.1, h1⟩ (h2 g H al hg hk)⟩
        · cases h
    · cases us <;> cases ds <;> first | (simp [chkDs] at h; done) | skip
      · exact ⟨[], .nil, fun _ _ _ _ _ => .nil⟩
      · rw [chkDs, Bool.and_eq_true] at h
        obtain ⟨v, h1, h2⟩ := ih.1 _ _ h.1
        obtain ⟨vs, h3, h4⟩ := ih.2 _ _ h.2
        exact ⟨v :: vs, .cons h1 h3, fun g H al hg hk => .cons (h2 g H al hg (hk.imp id fun z => (Bool.and_eq_true_iff.mp (show (ntB _ && ntBs _) = true from z)).1)) (h4 g H al hg (hk.imp id fun z => (Bool.and_eq_true_iff.mp (show (ntB _ && ntBs _) = true from z)).2))⟩
section
open He
variable {K : PySem.W.Frag} {h : Heap} {mg : Str → Option Value}
theorem pl_ok {x : Str} (c : (Fq.pl x).ok K = true) : MkPl K (ga K x) := by
  obtain ⟨c1, c⟩ := ba c
  obtain ⟨c2, c3⟩ := ba c
  exact ⟨c1, eqO_ok c2, c3⟩
theorem insty_ok {x : Str} (c : (Fq.ins x).ok K = true) : InsTy K (ga K x) := by
  obtain ⟨c1, c⟩ := ba c
  obtain ⟨c2, c⟩ := ba c
  obtain ⟨c3, c4⟩ := ba c
  exact ⟨eqO_ok c1, eqO_ok c2, of_decide_eq_true c3, of_decide_eq_true c4⟩
theorem kitC_ok {x y : Str} {b : Bool} (c : (Fq.kit x (.inl y) b).ok K = true) : PySem.W.kitOne K (.ref (ga K x)) (.ref (ga K y)) = some b := of_decide_eq_true c
theorem kitT_ok {x : Str} {T : String} {b : Bool} (c : (Fq.kit x (.inr T) b).ok K = true) : PySem.W.kitOne K (.ref (ga K x)) (.type T) = some b := of_decide_eq_true c
theorem tyk_ok {t : String} {y : Str} {b : Bool} (c : (Fq.tyk t y b).ok K = true) : PySem.W.kitOne K (.type t) (.ref (ga K y)) = some b := of_decide_eq_true c
theorem same_ok {x y m : Str} (c : (Fq.same x y m).ok K = true) : ma K (ga K x) m = ma K (ga K y) m := of_decide_eq_true c
theorem const_ok (X : K.In h) (hG : h.Ns mainGlobals mg) {x : Str} {d : D} (c : (Fq.const x d).ok K = true) : ∃ u v, mg x = some u ∧ RelV v u ∧ ∀ (g : G) H al, g.K = K → (ktB = true ∨ ntB d = true) → Rep g H al v d := by
  have c2 : (match PySem.W.nsIn K mainGlobals x with
    | some (some v) => chkD K 60 v d
    | _ => false) = true := c
  cases e : PySem.W.nsIn K mainGlobals x with
  | none => rw [e] at c2; cases c2
  | some o =>
    rw [e] at c2
    cases o with
    | none => cases c2
    | some u =>
      obtain ⟨v, h1, h2⟩ := (chk_ok 60).1 u d c2
      exact ⟨u, v, PySem.W.mg_of X hG e, h1, h2⟩
theorem fq_at {fq : List Fq} {f : Fq} (c : (fq.all fun f => f.ok K) = true) (i : Nat) (h : fq[i]? = some f := by rfl) : f.ok K = true := List.all_eq_true.mp c f (List.mem_of_getElem? h)
end
end Mx
namespace Mx
open PySem L2 He
section
variable {K : PySem.W.Frag} {h : Heap} {mg : Str → Option Value}
theorem meth_via {x y m : Str} (s : (Fq.same x y m).ok K = true) (c : (Fa.meth x m).ok K = true) : Meth K (ga K x) m (ma K (ga K y) m) := by
  have z := meth_ok c
  rw [same_ok s] at z
  exact z
theorem mk_via {x y : Str} {f : Addr} (s : (Fq.same x y "__init__").ok K = true) (c : Mk K (ga K x) (ma K (ga K x) "__init__")) : Mk K (ga K x) (ma K (ga K y) "__init__") := by
  rw [same_ok s] at c
  exact c
structure TyF (K : PySem.W.Frag) (u : Value) : Prop where
  t1 : PySem.W.kitOne K (.type "NoneType") u = some false
  t2 : PySem.W.kitOne K (.type "bool") u = some false
  t3 : PySem.W.kitOne K (.type "int") u = some false
  t4 : PySem.W.kitOne K (.type "str") u = some false
  t5 : PySem.W.kitOne K (.type "tuple") u = some false
  t6 : PySem.W.kitOne K (.type "list") u = some false
  t7 : PySem.W.kitOne K (.type "dict") u = some false
theorem tyF_ok {u : Value} (z : TyF K u) : ∀ t b, tyF t = some b → PySem.W.kitOne K (.type t) u = some b := fun t b hb => by
  unfold tyF at hb
  by_cases q : tyL.contains t = true
  · rw [if_pos q] at hb
    cases hb
    rw [List.contains_iff_mem] at q
    simp only [tyL, List.mem_cons, List.not_mem_nil, or_false] at q
    rcases q with rfl | rfl | rfl | rfl | rfl | rfl | rfl
    · exact z.t1
    · exact z.t2
    · exact z.t3
    · exact z.t4
    · exact z.t5
    · exact z.t6
    · exact z.t7
  · rw [if_neg q] at hb; cases hb
theorem glb_of {W : Wd} {x : Str} {d : D} (z : ∃ u v, W.mg x = some u ∧ RelV v u ∧ ∀ (g : G) H al, g.K = W.g.K → (ktB = true ∨ ntB d = true) → Rep g H al v d) (hk : ktB = true ∨ ntB d = true) : GlbW W x d :=
  let ⟨u, v, h1, h2, h3⟩ := z
  ⟨u, v, h1, h2, fun F H al => h3 _ H al rfl hk⟩
end
end Mx
namespace Mx
open PySem L2 RZ RT
variable {g : G} {E : XK} {X : Cx} {H : Hp} {al : List Addr} {s : Sto} {σ : St} {ρ : Ro}
theorem wipeD_get : ∀ (vs : List Nat) (ρ : Ro) (j : Nat), (wipeD ρ vs)[j]? = if j ∈ vs then (ρ[j]?).map (fun _ => none) else ρ[j]?
  | [], ρ, j => by simp [wipeD]
  | v :: vs, ρ, j => by
    show ((wipeD ρ vs).set v none)[j]? = _
    have hl : (wipeD ρ vs).length = ρ.length := by
      induction vs with
      | nil => rfl
      | cons w ws ih => show ((wipeD ρ ws).set w none).length = _; rw [List.length_set, ih]
    by_cases e : v = j
    · subst e
      rw [if_pos List.mem_cons_self]
      by_cases h : v < ρ.length
      · rw [List.getElem?_set_self (by rw [hl]; exact h)]; simp [h]
      · rw [List.getElem?_eq_none (by simpa [hl] using h), List.getElem?_eq_none (by simpa using h)]; rfl
    · rw [List.getElem?_set_ne e, wipeD_get vs ρ j]
      by_cases m : j ∈ vs
      · rw [if_pos m, if_pos (List.mem_cons_of_mem _ m)]
      · rw [if_neg m, if_neg (fun z => (List.mem_cons.mp z).elim (fun q => e q.symm) m)]
theorem wipeD_length (ρ : Ro) : ∀ vs : List Nat, (wipeD ρ vs).length = ρ.length
  | [] => rfl
  | v :: vs => by show ((wipeD ρ vs).set v none).length = _; rw [List.length_set, wipeD_length ρ vs]
theorem EnvR.forget (e : EnvR g H al σ ρ) (vs : List Nat) : EnvR g H al σ (wipeD ρ vs) := by
  refine ⟨by rw [wipeD_length]; exact e.1, fun i d h => ?_⟩
  rw [wipeD_get] at h
  by_cases m : i ∈ vs
  · rw [if_pos m] at h
    cases q : ρ[i]? with
    | none => rw [q] at h; cases h
    | some o => rw [q] at h; cases h
  · rw [if_neg m] at h; exact e.2 i d h
def sForget (vs : List Nat) (m : MD Fl) : MD Fl := fun ρ s => m (wipeD ρ vs) s
theorem ms_forget {b : List Stmt} {m : MD Fl} (vs : List Nat) (h : PSs X b (TSx g E m)) : PSs X b (TSx g E (sForget vs m)) := pss_mono h fun En σ H ⟨ρ, al, s, er, st, p⟩ => ⟨wipeD ρ vs, al, s, er.forget vs, st, p⟩
mutual
def clB : D → Bool
  | .non => true | .bl _ => true | .int _ => true | .str _ => true
  | .tup ds => clBs ds
  | .frz ds => clBs ds
  | _ => false
def clBs : List D → Bool
  | [] => true
  | d :: ds => clB d && clBs ds
end
theorem StOk.no_tup {p : Addr} {vs : List V} (st : StOk g H al s) (h : H p = some (.tup vs)) : p ∉ al := fun m => by
  obtain ⟨n, e⟩ := List.getElem?_of_mem m
  have hn : n < s.length := by rw [← st.len]; exact (List.getElem?_eq_some_iff.mp e).1
  have k := st.cell n p s[n] e (List.getElem?_eq_some_iff.mpr ⟨hn, rfl⟩)
  cases q : s[n] with
  | lst _ => rw [q] at k; obtain ⟨_, e1, _⟩ := k; rw [h] at e1; cases e1
  | dK _ => rw [q] at k; obtain ⟨_, e1, _⟩ := k; rw [h] at e1; cases e1
  | dT _ => rw [q] at k; obtain ⟨_, e1, _⟩ := k; rw [h] at e1; cases e1
  | obj _ _ => rw [q] at k; obtain ⟨_, _, e1, _⟩ := k; rw [h] at e1; cases e1
  | fK _ => rw [q] at k; obtain ⟨_, _, e1, _⟩ := k; rw [h] at e1; cases e1
  | fT _ => rw [q] at k; obtain ⟨_, _, e1, _⟩ := k; rw [h] at e1; cases e1
theorem StOk.no_frz {p : Addr} {o : Obj} {u : List V} (st : StOk g H al s) (h : H p = some (.frz o (.lst u))) : p ∉ al := fun m => by
  obtain ⟨n, e⟩ := List.getElem?_of_mem m
  have hn : n < s.length := by rw [← st.len]; exact (List.getElem?_eq_some_iff.mp e).1
  have k := st.cell n p s[n] e (List.getElem?_eq_some_iff.mpr ⟨hn, rfl⟩)
  cases q : s[n] with
  | lst _ => rw [q] at k; obtain ⟨_, e1, _⟩ := k; rw [h] at e1; cases e1
  | dK _ => rw [q] at k; obtain ⟨_, e1, _⟩ := k; rw [h] at e1; cases e1
  | dT _ => rw [q] at k; obtain ⟨_, e1, _⟩ := k; rw [h] at e1; cases e1
  | obj _ _ => rw [q] at k; obtain ⟨_, _, e1, _⟩ := k; rw [h] at e1; cases e1
  | fK _ => rw [q] at k; obtain ⟨_, _, e1, _⟩ := k; rw [h] at e1; cases e1
  | fT _ => rw [q] at k; obtain ⟨_, _, e1, _⟩ := k; rw [h] at e1; cases e1
theorem StOk.no_ext {p : Addr} {φ : Heap → Prop} (st : StOk g H al s) (h : H p = some (.ext φ)) : p ∉ al := fun m => by
  obtain ⟨n, e⟩ := List.getElem?_of_mem m
  have hn : n < s.length := by rw [← st.len]; exact (List.getElem?_eq_some_iff.mp e).1
  have k := st.cell n p s[n] e (List.getElem?_eq_some_iff.mpr ⟨hn, rfl⟩)
  cases q : s[n] with
  | lst _ => rw [q] at k; obtain ⟨_, e1, _⟩ := k; rw [h] at e1; cases e1
  | dK _ => rw [q] at k; obtain ⟨_, e1, _⟩ := k; rw [h] at e1; cases e1
  | dT _ => rw [q] at k; obtain ⟨_, e1, _⟩ := k; rw [h] at e1; cases e1
  | obj _ _ => rw [q] at k; obtain ⟨_, _, e1, _⟩ := k; rw [h] at e1; cases e1
  | fK _ => rw [q] at k; obtain ⟨_, _, e1, _⟩ := k; rw [h] at e1; cases e1
  | fT _ => rw [q] at k; obtain ⟨_, _, e1, _⟩ := k; rw [h] at e1; cases e1
theorem StOk.no_xd {p : Addr} {fs : List (Str × V)} (st : StOk g H al s) (h : H p = some (.xd fs)) : p ∉ al := fun m => by
  obtain ⟨n, e⟩ := List.getElem?_of_mem m
  have hn : n < s.length := by rw [← st.len]; exact (List.getElem?_eq_some_iff.mp e).1
  have k := st.cell n p s[n] e (List.getElem?_eq_some_iff.mpr ⟨hn, rfl⟩)
  cases q : s[n] with
  | lst _ => rw [q] at k; obtain ⟨_, e1, _⟩ := k; rw [h] at e1; cases e1
  | dK _ => rw [q] at k; obtain ⟨_, e1, _⟩ := k; rw [h] at e1; cases e1
  | dT _ => rw [q] at k; obtain ⟨_, e1, _⟩ := k; rw [h] at e1; cases e1
  | obj _ _ => rw [q] at k; obtain ⟨_, _, e1, _⟩ := k; rw [h] at e1; cases e1
  | fK _ => rw [q] at k; obtain ⟨_, _, e1, _⟩ := k; rw [h] at e1; cases e1
  | fT _ => rw [q] at k; obtain ⟨_, _, e1, _⟩ := k; rw [h] at e1; cases e1
variable {al' : List Addr} {s' : Sto}
mutual
/-- .. they are so whatever is a cell -/
theorem Rep.clo (st : StOk g H al' s') : ∀ {v : V} {d : D}, clB d = true → Rep g H al v d → Rep g H al' v d
  | _, _, _, .non => .non
  | _, _, _, .bl b => .bl b
  | _, _, _, .int i => .int i
  | _, _, _, .str x => .str x
  | _, _, c, .ref _ => by cases c
  | _, _, c, .tupH h o r => .tupH h ⟨st.no_tup h, o.2⟩ (Reps.clo st c r)
  | _, _, c, .tupK q h r => .tupK q h (Reps.clo st c r)
  | _, _, c, .lst _ _ _ => by cases c
  | _, _, c, .twn _ _ _ => by cases c
  | _, _, c, .frz h o r => .frz h ⟨st.no_frz h, o.2⟩ (Reps.clo st c r)
  | _, _, c, .frzK h r => .frzK h (Reps.clo st c r)
  | _, _, c, .obj _ _ _ _ => by cases c
  | _, _, c, .exv0 _ _ => by cases c
  | _, _, c, .exv1 _ _ _ _ _ _ => by cases c
theorem Reps.clo (st : StOk g H al' s') : ∀ {vs : List V} {ds : List D}, clBs ds = true → Reps g H al vs ds → Reps g H al' vs ds
  | _, _, _, .nil => .nil
  | _, _, c, .cons h r => by
    rw [clBs, Bool.and_eq_true] at c
    exact .cons (Rep.clo st c.1 h) (Reps.clo st c.2 r)
end
/-- the slots kept, if they have no cells -/
def keepO (o : Option D) : Option D := match o with
  | some d => if clB d then some d else none
  | none => none
def keepR (keep : List Nat) (ρ : Ro) : Ro := ρ.zipIdx.map fun (o, i) => if keep.contains i then keepO o else none
theorem keepR_get {keep : List Nat} {ρ : Ro} {i : Nat} {d : D} (h : (keepR keep ρ)[i]? = some (some d)) : ρ[i]? = some (some d) ∧ clB d = true := by
  unfold keepR at h
  rw [List.getElem?_map, List.getElem?_zipIdx] at h
  cases q : ρ[i]? with
  | none => rw [q] at h; cases h
  | some o =>
    rw [q] at h
    have h' : (if keep.contains (0 + i) then keepO o else none) = some d := Option.some.inj h
    by_cases k : keep.contains (0 + i) = true
    · rw [if_pos k] at h'
      cases o with
      | none => cases h'
      | some d2 =>
        unfold keepO at h'
        by_cases c : clB d2 = true
        · simp only [c, if_true] at h'; cases h'; exact ⟨rfl, c⟩
        · simp only [c] at h'; cases h'
    · rw [if_neg k] at h'; cases h'
theorem EnvR.keepR (e : EnvR g H al σ ρ) (keep : List Nat) (st : StOk g H al' s') : EnvR g H al' σ (Mx.keepR keep ρ) := by
  refine ⟨by rw [e.1]; simp [Mx.keepR], fun i d h => ?_⟩
  obtain ⟨h1, h2⟩ := keepR_get h
  obtain ⟨v, e1, e2⟩ := e.2 i d h1
  exact ⟨v, e1, e2.clo st h2⟩
def forKM (keep : List Nat) (mt : D → MD Ro) (body : MD Fl) (s1 : Sto) : List D → Ro → Rs Fl
  | [], ρ => .ok (.nx ρ) s1
  | d :: ds, ρ => if clB d then match mt d ρ [] with
    | .ok ρ1 s2 => match body ρ1 s2 with
      | .ok (.nx ρ2) _ => forKM keep mt body s1 ds (keepR keep ρ2)
      | .ok (.ct ρ2) _ => forKM keep mt body s1 ds (keepR keep ρ2)
      | .ok (.bk ρ2) _ => .ok (.nx (keepR keep ρ2)) s1
      | .ok (.ret d) _ => if clB d then .ok (.ret d) s1 else .bad
      | _ => .bad
    | _ => .bad
    else .bad
def sForK (keep : List Nat) (src : MD Src) (mt : D → MD Ro) (body : MD Fl) : MD Fl := fun ρ s => (src ρ s).bind fun c s => if c.guard s then forKM keep mt body s c.items (keepR keep ρ) else .bad
theorem stok_nil (st : StOk g H al s) : StOk g H [] [] := ⟨rfl, .nil, st.fs, (fun a m => nomatch m), fun n p c e1 => by simp at e1⟩
theorem Tr.all {H' : Hp} {al' : List Addr} (t : Tr g [] H al' H') : ∀ a o, H a = some o → H' a = some o := fun a o e => t.keep a o (fun m => nomatch m) e
theorem EnvR.clo {keep : List Nat} (e : EnvR g H al σ (Mx.keepR keep ρ)) (st : StOk g H al' s') : EnvR g H al' σ (Mx.keepR keep ρ) :=
  ⟨e.1, fun i d h => let ⟨v, e1, e2⟩ := e.2 i d h; ⟨v, e1, e2.clo st (keepR_get h).2⟩⟩
theorem ms_forK {tg iter : Expr} {body : List Stmt} {src : MD Src} {vs : List Nat} {mt : D → MD Ro} {mb : MD Fl} {pos : Pos} (keep : List Nat) (hp : PassesOwn (model X.prog X.w) X.A X.env X.xe) (hc : X.calm = true) (hi : PI X tg iter (TIx g E src)) (hg : PG X tg (tgR g E vs mt)) (hb : PSs X body (TSx g E mb))
    (hs : ∀ x, foldedSetIterable iter X.env x = pure x) : PS X (.For tg iter body [] pos) (TSx g E (sForK keep src mt mb)) := by
  refine ps_mono (ps_for hp hc hi hg hb hs) fun En σ H ⟨ρ, al, s, er, st, p⟩ => ?_
  refine ⟨ρ, al, s, er, st, Post.bind p fun c s1 J H1 al1 _ t st1 gd p1 => ?_⟩
  by_cases hgd : c.guard s1 = true
  · rw [if_pos hgd] at p1
    refine ⟨fun i m σ' H' => ∃ ρ', EnvR g H' al1 σ' (keepR keep ρ') ∧ StOk g H' al1 s1 ∧ Tr g al1 H1 al1 H' ∧ i ≤ c.items.length ∧ m = c.items.length - i ∧ Post g E (relF g) (forKM keep mt mb s1 (c.items.drop i) (keepR keep ρ')) H1 al1 (Dq En),
      ⟨c.items.length, ρ, (er.tr t).keepR keep st1, st1, .refl, Nat.zero_le _, rfl, p1⟩, ?_⟩
    rintro i m σ' H' ⟨ρ', er', st', t', hi', rfl, p'⟩
    obtain ⟨g1, g2, g3⟩ := gd g.F H' al1 s1 (fun _ _ r => Rep.tr t' r) t'.fz st' hgd
    by_cases hlt : i < c.items.length
    · have hd : c.items[i]? = some c.items[i] := by simp [hlt]
      rw [drop_cons hd] at p'
      unfold forKM at p'
      by_cases hcl : clB c.items[i] = true
      · rw [if_pos hcl] at p'
        refine .inr ⟨g1 i hlt, fun σ3 H3 => ∃ ρ3, EnvR g H3 al1 σ3 (keepR keep ρ3) ∧ StOk g H3 al1 s1 ∧ Tr g al1 H1 al1 H3 ∧ Post g E (relF g) (forKM keep mt mb s1 (c.items.drop (i + 1)) (keepR keep ρ3)) H1 al1 (Dq En), ?_, fun x H2 hy => ?_⟩
        · rintro σ3 H3 ⟨ρ3, er3, st3, t3, p3⟩
          exact ⟨c.items.length - (i + 1), by omega, ρ3, er3, st3, t3, hlt, rfl, p3⟩
        · obtain ⟨t2, st2, d, e1, rp⟩ := g3 i x H2 hlt hy
          rw [hd] at e1; cases e1
          have stn : StOk g H2 [] [] := stok_nil (g := g) st2
          have er2 : EnvR g H2 [] σ' (keepR keep ρ') := (er'.tr t2).clo stn
          refine ⟨_, keepR keep ρ', [], [], rp.clo stn hcl, er2, stn, ?_⟩
          cases q : mt c.items[i] (keepR keep ρ') [] with
          | bad => rw [q] at p'; exact p'.elim
          | exc _ _ _ => rw [q] at p'; exact p'.elim
          | ok ρ1 s2 =>
            rw [q] at p'
            simp only at p'
            intro σ4 H4 al4 t4 st4 er4 _
            refine ⟨ρ1, al4, s2, er4, st4, ?_⟩
            cases q2 : mb ρ1 s2 with
            | bad => rw [q2] at p'; exact p'.elim
            | exc _ _ _ => rw [q2] at p'; exact p'.elim
            | ok f s5 =>
              rw [q2] at p'
              intro fv H5 al5 t5 st5 rf
              have al' := (t4.trans t5).all
              have stO : StOk g H5 al1 s1 := st2.same al'
              have tO : Tr g al1 H1 al1 H5 := (t'.trans t2).trans (.same al')
              cases f <;> cases fv <;> first | exact rf.elim | skip
              · exact ⟨_, EnvR.keepR rf keep stO, stO, tO, p'⟩
              · rename_i d v
                by_cases hc2 : clB d = true
                · simp only [hc2, if_true] at p'
                  exact (show Dq En (.ret v) H5 from p' (.ret v) H5 al1 tO stO (Rep.clo (g := g) stO hc2 rf))
                · simp only [hc2] at p'; exact p'.elim
              · rename_i ρ2 σ2
                exact (show Dq En (.nx σ2) H5 from p' (.nx σ2) H5 al1 tO stO (EnvR.keepR rf keep stO))
              · exact ⟨_, EnvR.keepR rf keep stO, stO, tO, p'⟩
      · rw [if_neg hcl] at p'; exact p'.elim
    · have e : i = c.items.length := by omega
      subst e
      rw [List.drop_length] at p'
      exact .inl ⟨g2, (show Dq En (.nx σ') H' from p' (.nx σ') H' al1 t' st' er')⟩
  · rw [if_neg hgd] at p1; exact p1.elim
mutual
def okD : D → Bool
  | .tup ds => okDs ds
  | .frz ds => okDs ds
  | .lst _ => false
  | .obj _ _ => false
  | .exv _ _ => false
  | .twn _ _ => false
  | _ => true
def okDs : List D → Bool
  | [] => true
  | d :: ds => okD d && okDs ds
end
mutual
def shD (k : Nat) : D → D
  | .ref n => .ref (n + k)
  | .tup ds => .tup (shDs k ds)
  | .frz ds => .frz (shDs k ds)
  | d => d
def shDs (k : Nat) : List D → List D
  | [] => []
  | d :: ds => shD k d :: shDs k ds
end
def okC : Cell → Bool
  | .lst ds => okDs ds
  | .obj _ ds => okDs ds
  | .dK kvs => okDs (kvs.map (·.2))
  | .dT kvs => okDs (kvs.map (·.2))
  | .fK kvs => okDs (kvs.map (·.2))
  | .fT kvs => okDs (kvs.map (·.2))
def shC (k : Nat) : Cell → Cell
  | .lst ds => .lst (shDs k ds)
  | .obj c ds => .obj c (shDs k ds)
  | .dK kvs => .dK ((kvs.map (·.1)).zip (shDs k (kvs.map (·.2))))
  | .dT kvs => .dT ((kvs.map (·.1)).zip (shDs k (kvs.map (·.2))))
  | .fK kvs => .fK ((kvs.map (·.1)).zip (shDs k (kvs.map (·.2))))
  | .fT kvs => .fT ((kvs.map (·.1)).zip (shDs k (kvs.map (·.2))))
def pureD (φ : List D → Sto → Rs D) (ds : List D) (s : Sto) : Rs D := match allSome (ds.map (frzD 0 s 40)) with
  | none => .bad
  | some es => match φ es [] with
    | .ok d s' => if okD d && s'.all okC then .ok (shD s.length d) (s ++ s'.map (shC s.length)) else .bad
    | .exc c xs s' => if okDs xs && s'.all okC then .exc c (shDs s.length xs) (s ++ s'.map (shC s.length)) else .bad
    | .bad => .bad
mutual
theorem Rep.shift (st : StOk g H al s) : ∀ {v : V} {d : D}, okD d = true → Rep g H al' v d → Rep g H (al ++ al') v (shD s.length d)
  | _, _, _, .non => .non
  | _, _, _, .bl b => .bl b
  | _, _, _, .int i => .int i
  | _, _, _, .str x => .str x
  | _, _, _, .ref h => .ref (by rw [← st.len, List.getElem?_append_right (by omega), Nat.add_sub_cancel]; exact h)
  | _, _, c, .tupH h o r => .tupH h ⟨fun m => (List.mem_append.mp m).elim (st.no_tup h) o.1, o.2⟩ (Reps.shift st c r)
  | _, _, c, .tupK q h r => .tupK q h (Reps.shift st c r)
  | _, _, c, .lst _ _ _ => by cases c
  | _, _, c, .twn _ _ _ => by cases c
  | _, _, c, .frz h o r => .frz h ⟨fun m => (List.mem_append.mp m).elim (st.no_frz h) o.1, o.2⟩ (Reps.shift st c r)
  | _, _, c, .frzK h r => .frzK h (Reps.shift st c r)
  | _, _, c, .obj _ _ _ _ => by cases c
  | _, _, c, .exv0 _ _ => by cases c
  | _, _, c, .exv1 _ _ _ _ _ _ => by cases c
theorem Reps.shift (st : StOk g H al s) : ∀ {vs : List V} {ds : List D}, okDs ds = true → Reps g H al' vs ds → Reps g H (al ++ al') vs (shDs s.length ds)
  | _, _, _, .nil => .nil
  | _, _, c, .cons h r => by
    rw [okDs, Bool.and_eq_true] at c
    exact .cons (Rep.shift st c.1 h) (Reps.shift st c.2 r)
end
theorem shDs_length (k : Nat) : ∀ ds : List D, (shDs k ds).length = ds.length
  | [] => rfl
  | _ :: ds => by rw [shDs, List.length_cons, List.length_cons, shDs_length k ds]
theorem zip_fst {α β : Type} : ∀ {a : List α} {b : List β}, a.length = b.length → (a.zip b).map (·.1) = a
  | [], [], _ => rfl
  | [], _ :: _, h => by cases h
  | _ :: _, [], h => by cases h
  | x :: a, y :: b, h => by simp [zip_fst (show a.length = b.length by simpa using h)]
theorem zip_snd {α β : Type} : ∀ {a : List α} {b : List β}, a.length = b.length → (a.zip b).map (·.2) = b
  | [], [], _ => rfl
  | [], _ :: _, h => by cases h
  | _ :: _, [], h => by cases h
  | x :: a, y :: b, h => by simp [zip_snd (show a.length = b.length by simpa using h)]
theorem CellOk.shift (st : StOk g H al s) {p : Addr} {c : Cell} (k : okC c = true) (h : CellOk g H al' p c) : CellOk g H (al ++ al') p (shC s.length c) := by
  cases c with
  | lst ds => obtain ⟨vs, e, r⟩ := h; exact ⟨vs, e, Reps.shift st k r⟩
  | obj c ds => obtain ⟨dx, vs, e, l, r⟩ := h; exact ⟨dx, vs, e, l, Reps.shift st k r⟩
  | dK kvs =>
    obtain ⟨kv, e, e', r⟩ := h
    have hl : (kvs.map (·.1)).length = (shDs s.length (kvs.map (·.2))).length := by rw [shDs_length]; simp
    exact ⟨kv, e, by rw [zip_fst hl]; exact e', by rw [zip_snd hl]; exact Reps.shift st k r⟩
  | dT kvs =>
    obtain ⟨kv, e, e', r⟩ := h
    have hl : (kvs.map (·.1)).length = (shDs s.length (kvs.map (·.2))).length := by rw [shDs_length]; simp
    exact ⟨kv, e, by rw [zip_fst hl]; exact e', by rw [zip_snd hl]; exact Reps.shift st k r⟩
  | fK kvs =>
    obtain ⟨od, kv, e, e', r⟩ := h
    have hl : (kvs.map (·.1)).length = (shDs s.length (kvs.map (·.2))).length := by rw [shDs_length]; simp
    exact ⟨od, kv, e, by rw [zip_fst hl]; exact e', by rw [zip_snd hl]; exact Reps.shift st k r⟩
  | fT kvs =>
    obtain ⟨od, kv, e, e', r⟩ := h
    have hl : (kvs.map (·.1)).length = (shDs s.length (kvs.map (·.2))).length := by rw [shDs_length]; simp
    exact ⟨od, kv, e, by rw [zip_fst hl]; exact e', by rw [zip_snd hl]; exact Reps.shift st k r⟩
theorem Tr.join {H0 : Hp} (st : StOk g H0 al s) (t : Tr g [] H0 al' H) : Tr g al H0 (al ++ al') H := by
  obtain ⟨be, e, f1, f2⟩ := t.ex
  rw [List.nil_append] at e
  subst e
  exact ⟨⟨_, rfl, f1, f2⟩, fun a o _ e => t.all a o e, t.dom, t.fz⟩
theorem StOk.join {H0 : Hp} (st : StOk g H0 al s) (t : Tr g [] H0 al' H) (st' : StOk g H al' s') (hk : s'.all okC = true) : StOk g H (al ++ al') (s ++ s'.map (shC s.length)) := by
  have T := Tr.join st t
  have stH : StOk g H al s := st.same t.all
  have hn : ∀ a ∈ al', a ∉ al := fun a m z => by
    obtain ⟨be, e, f1, f2⟩ := t.ex
    rw [List.nil_append] at e
    subst e
    obtain ⟨o, q, _⟩ := st.there z
    rw [f1 a m] at q; cases q
  refine ⟨by simp [st.len, st'.len], List.nodup_append.mpr ⟨st.nd, st'.nd, fun a ha b hb e => hn b hb (e ▸ ha)⟩, st'.fs, fun a m => (List.mem_append.mp m).elim (st.apart a) (st'.apart a), fun n p c e1 e2 => ?_⟩
  by_cases hm : n < al.length
  · rw [List.getElem?_append_left hm] at e1
    rw [List.getElem?_append_left (by rw [← st.len]; exact hm)] at e2
    exact (st.cell n p c e1 e2).map T fun o e => t.all p o e
  · rw [List.getElem?_append_right (by omega)] at e1
    rw [List.getElem?_append_right (by rw [← st.len]; omega)] at e2
    rw [List.getElem?_map] at e2
    cases q : s'[n - s.length]? with
    | none => rw [q] at e2; cases e2
    | some c' =>
      rw [q] at e2
      have e2' : shC s.length c' = c := Option.some.inj e2
      rw [← e2']
      exact (st'.cell _ p c' (by rw [← st.len] at q ⊢; exact e1) q).shift stH (List.all_eq_true.mp hk c' (List.mem_of_getElem? q))
theorem post_pure {φ : List D → Sto → Rs D} {ds es : List D} {Q : VK} (st : StOk g H al s) (p : Post g E (Rep g) (pureD φ ds s) H al Q) (he : allSome (ds.map (frzD 0 s 40)) = some es) : Post g E (Rep g) (φ es []) H [] Q := by
  unfold pureD at p
  simp only [he] at p
  cases q : φ es [] with
  | bad => rw [q] at p; exact p.elim
  | ok d s' =>
    rw [q] at p
    simp only at p
    by_cases k : (okD d && s'.all okC) = true
    · rw [if_pos k] at p
      obtain ⟨k1, k2⟩ := Bool.and_eq_true_iff.mp k
      intro v H' al' t st' rp
      exact p v H' (al ++ al') (Tr.join st t) (st.join t st' k2) (rp.shift (st.same t.all) k1)
    · rw [if_neg k] at p; exact p.elim
  | exc c xs s' =>
    rw [q] at p
    simp only at p
    by_cases k : (okDs xs && s'.all okC) = true
    · rw [if_pos k] at p
      obtain ⟨k1, k2⟩ := Bool.and_eq_true_iff.mp k
      intro cls dd H' al' t st' ex
      have stH := st.same (H' := H') t.all
      refine p cls dd H' (al ++ al') (Tr.join st t) (st.join t st' k2) ⟨ex.1, ?_⟩
      rcases ex.2 with ⟨e1, e2⟩ | ⟨dx, vs, e1, e2, e3, e4, rs⟩
      · subst e1; exact .inl ⟨rfl, e2⟩
      · refine .inr ⟨dx, vs, e1, e2, ⟨fun m => (List.mem_append.mp m).elim (fun z => ?_) e3.1, e3.2⟩, e4, rs.shift stH k1⟩
        obtain ⟨n, en⟩ := List.getElem?_of_mem z
        have hn : n < s.length := by rw [← st.len]; exact (List.getElem?_eq_some_iff.mp en).1
        have kk := stH.cell n dx s[n] en (List.getElem?_eq_some_iff.mpr ⟨hn, rfl⟩)
        cases q2 : s[n] with
        | lst _ => rw [q2] at kk; obtain ⟨_, e1, _⟩ := kk; rw [e2] at e1; cases e1
        | dK _ => rw [q2] at kk; obtain ⟨_, e1, _⟩ := kk; rw [e2] at e1; cases e1
        | dT _ => rw [q2] at kk; obtain ⟨_, e1, _⟩ := kk; rw [e2] at e1; cases e1
        | obj _ _ => rw [q2] at kk; obtain ⟨_, _, e1, _⟩ := kk; rw [e2] at e1; cases e1
        | fK _ => rw [q2] at kk; obtain ⟨_, _, e1, _⟩ := kk; rw [e2] at e1; cases e1
        | fT _ => rw [q2] at kk; obtain ⟨_, _, e1, _⟩ := kk; rw [e2] at e1; cases e1
    · rw [if_neg k] at p; exact p.elim
theorem fn_pure {P : Program} {w : World} {K : PySem.W.Frag} {mg : Str → Option Value} {base : Heap} {CX : CXT} {k n : Nat} {f : Addr} {fd : FuncData} {ps : List Str} {φ ψ : List D → Sto → Rs D} (F : FnOk P w K mg base CX k f fd ps (spOf g n φ))
    (h : ∀ ds s, ψ ds s = .bad ∨ pureD φ ds s = ψ ds s) : FnOk P w K mg base CX k f fd ps (spOf g n ψ) :=
  F.imp fun vs H Q E ⟨hl, Fx, ds, al, s, rs, st, p⟩ => by
    rcases h ds s with e | e
    · rw [e] at p; exact p.elim
    · rw [← e] at p
      cases q : allSome (ds.map (frzD 0 s 40)) with
      | none => unfold pureD at p; simp only [q] at p; exact p.elim
      | some es => exact ⟨hl, Fx, es, [], [], frzs_ok (al0 := []) (be := al) (fun d d' v => frzD_ok (al0 := []) (be := al) st 40 d d' v) ds es vs q rs, stok_nil st, post_pure st p q⟩
end Mx
namespace PySem
open PySem.Spec PyProof.Rows RT RZ
section
variable {prog : Program} {w : World} {A : Around} {E : Value → Shared → Prop} {s : Shared}
theorem mx_list_init_rev {R : Result → Shared → Prop} {it l : Addr} {items : Array Value} (hh : A.handled = none) (hit : s.heap.IsRevIter it l ((items.size : Int) - 1)) (hl : s.heap.IsList l items) (hne : l ≠ it) (hn : items.size ≤ sizeLine) (S : Addr) (hSi : S ≠ it) (hSl : S ≠ l) (hS : s.heap.get? S = some { cls := .type "list", data := .seq #[] })
    (hR : ∀ h' tk acc' c', (∀ b o, b ≠ S → b ≠ it → s.heap.get? b = some o → h'.get? b = some o) → h'.get? S = some { cls := .type "list", dict := none, data := .seq acc' c', slots := #[] } →
      ItemsOf (fun i v => items[items.size - 1 - i]? = some v) acc' items.size → R (.ok (.ret .none)) { s with heap := h', toks := tk }) :
    wpAny (model prog w) A.in1 (Builtin.«list.__init__» ⟨[.ref S, .ref it], []⟩)
      (fun fin s' => match fin with | .done f => R (.ok f) s' | .again c' => c'.quiet = true ∧ codeAny (model prog w) A c' R s') (fun e s' => R (.error e) s') s := by
  have W := (Walks.listRev (prog := prog) (w := w) (A := A.in1) hh it l hne items).toS
  have hSf : S ∉ [it, l] := by simp only [List.mem_cons, List.not_mem_nil, or_false, not_or]; exact ⟨hSi, hSl⟩
  show wpAny _ _ (do let old ← Builtin.List.listItems (.ref S); Builtin.List.listUpdate (.ref S) (fun _ => #[]); letGo old.toList.reverse; Builtin.List.listExtendWith (.ref S) (.ref it) .none) _ _ s
  refine wpAny_bind ?_
  unfold Builtin.List.listItems
  refine wpAny_bind (wpAny_seqItems hS rfl (wpAny_pure ?_))
  show wpAny _ _ (updateSeq S (fun _ => #[]) >>= fun _ => letGo (#[] : Array Value).toList.reverse >>= fun _ => Builtin.List.listExtendWith (.ref S) (.ref it) .none) _ _ s
  refine wpAny_bind (wpAny_updateSeq hS rfl ?_)
  have hS₂ := Heap.get?_update_self (Obj.mapSeq (fun _ => (#[] : Array Value))) hS rfl
  have oth : ∀ b o, b ≠ S → s.heap.get? b = some o → (s.heap.update S (Obj.mapSeq (fun _ => (#[] : Array Value)))).get? b = some o :=
    fun b o hb e => (Heap.get?_update_other _ _ (Ne.symm hb)).trans e
  refine wpAny_bind (wpAny_letGo ?_)
  have hit1 : (s.heap.update S (Obj.mapSeq (fun _ => (#[] : Array Value)))).IsRevIter it l ((items.size : Int) - 1) := hit.at fun o e => oth it o (Ne.symm hSi) e
  have hl1 : (s.heap.update S (Obj.mapSeq (fun _ => (#[] : Array Value)))).IsList l items := hl.at fun o e => oth l o (Ne.symm hSl) e
  have hT : ({ s with heap := s.heap.update S (Obj.mapSeq (fun _ => (#[] : Array Value))) } : Shared).TypeIs (.ref it) "list_reverseiterator" := Heap.IsRevIter.typeIs (s := { s with heap := s.heap.update S (Obj.mapSeq (fun _ => (#[] : Array Value))) }) hit1
  have h1 : Builtin.List.listSameRef (.ref S) (.ref it) = false := by simp [Builtin.List.listSameRef, hSi]
  unfold Builtin.List.listExtendWith
  refine wpAny_bind (wpAny_typeOf hT ?_)
  rw [if_neg (by rw [h1]; decide)]
  refine wpAny_bind (wpAny_pyIter_revIter (s := { s with heap := s.heap.update S (Obj.mapSeq (fun _ => (#[] : Array Value))) }) hit1 ?_)
  refine wpAny_bind (wpAny_holding ?_)
  unfold Builtin.List.listLengthHint
  refine wpAny_bind (wpAny_specialOf hT nolen_lri ?_)
  show wpAny _ A.in1 (specialOf (Value.ref it) (Str.ofString "__length_hint__") >>= _) _ _ _
  refine wpAny_bind (wpAny_specialOf hT hint_lri ?_)
  generalize hid : ("list_reverseiterator.__length_hint__" : String) = id0
  wp_delta
  rw [show splitId id0 = some ("list_reverseiterator", "__length_hint__") from by subst hid; decide +kernel]
  subst hid
  refine wpAny_bind (wpAny_isInstance (b := true) hT (by rw [isSubtype_type]; kernel_rfl) ?_)
  refine wpAny_pure ?_
  rw [if_neg (by decide)]
  have e0 : ((items.size : Nat) : Int) - 1 - ((0 : Nat) : Int) = (items.size : Int) - 1 := by omega
  refine wpAny_pure ⟨plainId_quiet F.plain_extend_loop _, codeAny_extend_loopS W hn _ hSf _ items.size 0 _ _ _ rfl (Nat.zero_le _) ⟨Nat.zero_le _, by rw [e0]; exact hit1, hl1⟩ hS₂ (ItemsOf.nil _) fun s' acc' c' hm hS' hacc => ?_⟩
  rw [Moved.eq_with hm]
  refine hR s'.heap s'.toks acc' c' (fun b o hb hbi e => hm.heap b o (fun hmem => ?_) (oth b o hb e)) hS' hacc
  rcases List.mem_cons.mp hmem with e' | hmem
  · exact hb e'
  · exact hbi (List.mem_singleton.mp hmem)
theorem mx_call_list_rev {Q : Value → Shared → Prop} {it l : Addr} {items : Array Value} (hh : A.handled = none) (hit : s.heap.IsRevIter it l ((items.size : Int) - 1)) (hl : s.heap.IsList l items) (hne : l ≠ it) (hn : items.size ≤ sizeLine)
    (hQ : ∀ h' tk acc' c', (∀ b o, b ≠ it → s.heap.get? b = some o → h'.get? b = some o) →
      h'.get? s.heap.objs.size = some { cls := .type "list", dict := none, data := .seq acc' c', slots := #[] } → ItemsOf (fun i v => items[items.size - 1 - i]? = some v) acc' items.size → Q (.ref s.heap.objs.size) { s with heap := h', toks := tk }) :
    wpAny (model prog w) A (call (.type "list") [.ref it]) Q E s := by
  obtain ⟨oi, hoi, _⟩ := id hit
  obtain ⟨ol, hol, _⟩ := id hl
  have hSi : s.heap.objs.size ≠ it := Nat.ne_of_gt (Heap.lt_size hoi)
  have hSl : s.heap.objs.size ≠ l := Nat.ne_of_gt (Heap.lt_size hol)
  refine callType_codes (Q₁ := fun obj s₁ => obj = .ref s.heap.objs.size ∧ s₁ = { s with heap := s.heap.push { cls := .type "list", data := .seq #[] } }) F.called_list (F.typeCall_list_1 _) F.entry_list_init
    (code_list_new _ ⟨rfl, rfl⟩) fun obj s₁ h₁ => ?_
  obtain ⟨rfl, rfl⟩ := h₁
  have hS : (s.heap.push { cls := .type "list", data := .seq #[] }).get? s.heap.objs.size = some { cls := .type "list", data := .seq #[] } := Heap.get?_push_size _ rfl
  have hit1 : (s.heap.push { cls := .type "list", data := .seq #[] }).IsRevIter it l ((items.size : Int) - 1) := hit.at fun o e => Heap.get?_push_of_some _ e
  refine ⟨⟨_, hS, rfl⟩, F.args_list_init_2 _ _, mx_list_init_rev (A := A.in1) (s := { s with heap := s.heap.push { cls := .type "list", data := .seq #[] } }) hh hit1 (hl.push _) hne hn _ hSi hSl hS fun h' tk acc' c' hk hS' hacc => ?_⟩
  exact ⟨rfl, hQ h' tk acc' c' (fun b o hb e => hk b o (Nat.ne_of_lt (Heap.lt_size e)) hb (Heap.get?_push_of_some _ e)) hS' hacc⟩
end
end PySem
namespace Mx
open PySem L2 RZ RT PySem.Spec PyProof.Rows
section
variable {X : Cx}
def tLstRev (K : PySem.W.Frag) (te : TE) : TE := fun σ H Q => te σ H fun v H1 => ∃ (a : Addr) (xs : List V), v = .ref a ∧ SqL K H1 a xs ∧ ∀ q, H1 q = none → Q (.ref q) (upd H1 q (.lst xs.reverse))
theorem pe_lstRev {e : Expr} {te : TE} {p p2 pos pos2 : Pos} (hc : X.calm = true) (hg : Gl X "list") (hm : X.mg "list" = none) (hg2 : Gl X "reversed") (hm2 : X.mg "reversed" = none) (he : PE X e te)
    (hs : starEach [e] X.env = (false, eval e X.env) :: starEach [] X.env)
    (hs2 : starEach [.Call (.Name "reversed" p2) [e] [] pos2] X.env = (false, eval (.Call (.Name "reversed" p2) [e] [] pos2) X.env) :: starEach [] X.env := by rfl) :
    PE X (.Call (.Name "list" p) [.Call (.Name "reversed" p2) [e] [] pos2] [] pos) (tLstRev X.K te) := by
  refine ⟨fun pins s σ H Q I h => ?_⟩
  refine Call_ (ld_blt I hg hm boot_list (PyProof.Rows.callWith_type1 (args_cons (Call_ (ld_blt I hg2 hm2 PyProof.Rows.boot_reversed (PyProof.Rows.callWith_type1 (args_cons (thn (he.run pins s σ H _ I h) fun u s1 ⟨v, H1, I1, r1, q1⟩ => args_nil ?_) hs) hs rfl))) hs2) hs2 rfl))
  obtain ⟨a, xs, ev, hq, q⟩ := q1
  subst ev
  obtain rfl : u = Value.ref a := r1
  obtain ⟨its, rv, p', hz⟩ := I1.list hq
  refine call_reversed_list p'.isList (args_nil ?_)
  have hl := p'.isList
  obtain ⟨ol, hol, _⟩ := id hl
  have hne : a ≠ s1.heap.objs.size := Nat.ne_of_lt (Heap.lt_size hol)
  have hn : its.toArray.size ≤ sizeLine := by rw [List.size_toArray, ← rv.length]; exact hz
  have hsz : s1.heap.objs.size ≤ (s1.heap.push (revObj a ((its.toArray.size : Int) - 1))).objs.size := by rw [Heap.size_push]; exact Nat.le_succ _
  refine mx_call_list_rev (s := { s1 with heap := s1.heap.push (revObj a ((its.toArray.size : Int) - 1)) }) (I1.ok.hd hc) ⟨_, Heap.get?_push_size _ rfl, rfl, rfl⟩ (hl.push _) hne hn fun h' tk acc c' hk e' hi => ?_
  refine ⟨.ref (s1.heap.push (revObj a ((its.toArray.size : Int) - 1))).objs.size, upd H1 (s1.heap.push (revObj a ((its.toArray.size : Int) - 1))).objs.size (.lst xs.reverse), I1.laid (t' := tk) (fun b o e => hk b o (Nat.ne_of_lt (Heap.lt_size e)) (Heap.get?_push_of_some _ e)) hsz (show ObjOk X.prog X.w _ _ _ (.lst xs.reverse) from ⟨by rw [List.length_reverse]; exact hz, acc.toList, c', vals_rev rv hi, ?_⟩), rfl, q _ (I1.hok.fresh hsz)⟩
  rw [Array.toArray_toList]; exact e'
end
variable {W : Wd} {c : Ct} {E : XK} {X : Cx} {F : List Addr} {pos p p2 pos2 : Pos} {a d : Expr} {ma mb : MD D}
def kLstRev (k : Bool) (x : D) (s : Sto) : Rs D := optD (asL x s) fun ds => newL k ds.reverse s
def mLstRev (k : Bool) (a : MD D) : MD D := fun ρ s => (a ρ s).bind (kLstRev k)
theorem Bx.listRev (b : Bx W c E X) (k : Bool) (z : BltW W "list") (z2 : BltW W "reversed") (hg : glB c "list" = true) (hg2 : glB c "reversed" = true) (ha : PE X a (TX (W.g.wF F) E ma)) (hp : plainE a = true) :
    PE X (.Call (.Name "list" p) [.Call (.Name "reversed" p2) [a] [] pos2] [] pos) (TX (W.g.wF F) E (mLstRev k ma)) :=
  pe_mono (pe_lstRev b.calm (b.glo hg).1 (by rw [b.mg]; exact z.no) (b.glo hg2).1 (by rw [b.mg]; exact z2.no) ha (star_cons hp)) fun σ H Q ⟨ρ, al, s, er, st, q⟩ =>
    ⟨ρ, al, s, er, st, Post.bind q fun x s1 v H1 al1 _ t st1 rp q1 => by
      unfold kLstRev at q1
      obtain ⟨ds, e0, q2⟩ := optD_inv (β := Nat) (γ := Nat) q1
      obtain ⟨pa, vs, rfl, sq, rs⟩ := asL_ok st1 rp e0
      exact ⟨pa, vs, rfl, by rw [b.K]; exact sq, post_newL st1 rs.reverse q2⟩⟩
def kLstRg (k : Bool) (x : D) (s : Sto) : Rs D := match x with
  | .int n => if n.natAbs ≤ 16777216 then newL k ((List.range n.toNat).map fun (i : Nat) => .int (i : Int)) s else .bad
  | _ => .bad
def mLstRg (k : Bool) (a : MD D) : MD D := fun ρ s => (a ρ s).bind (kLstRg k)
theorem Bx.listRg (b : Bx W c E X) (k : Bool) (z : BltW W "list") (z2 : BltW W "range") (hg : glB c "list" = true) (hg2 : glB c "range" = true) (ha : PE X a (TX (W.g.wF F) E ma)) (hp : plainE a = true) :
    PE X (.Call (.Name "list" p) [.Call (.Name "range" p2) [a] [] pos2] [] pos) (TX (W.g.wF F) E (mLstRg k ma)) :=
  pe_mono (pe_listRg b.calm (b.glo hg).1 (by rw [b.mg]; exact z.no) (prg_1 (b.glo hg2).1 (by rw [b.mg]; exact z2.no) ha (star_cons hp))) fun σ H Q ⟨ρ, al, s, er, st, q⟩ =>
    ⟨ρ, al, s, er, st, Post.bind q fun x s1 v H1 al1 _ t st1 rp q1 => by
      unfold kLstRg at q1
      cases x with
      | int n =>
        cases rp.int_inv
        by_cases h : n.natAbs ≤ 16777216
        · simp only [if_pos h] at q1
          refine ⟨n, rfl, ⟨by omega, by omega, by omega, by omega, by omega⟩, post_newL st1 ?_ q1⟩
          have e1 : rgV 0 n = ((List.range n.toNat).map fun (i : Nat) => (i : Int)).map V.int := by
            unfold rgV
            rw [List.map_map, Int.sub_zero]
            apply List.map_congr_left
            intro i _
            simp
          have e2 : ((List.range n.toNat).map fun (i : Nat) => D.int (i : Int)) = ((List.range n.toNat).map fun (i : Nat) => (i : Int)).map D.int := by rw [List.map_map]; rfl
          rw [e1, e2]
          exact Reps.ints
        · simp only [if_neg h] at q1; exact q1.elim
      | _ => exact q1.elim⟩
end Mx
namespace Mx
open PySem L2
variable {g : G} {E : XK} {X : Cx}
def mBad : MD D := fun _ _ => .bad
def sBad : MD Fl := fun _ _ => .bad
theorem me_bad {e : Expr} : PE X e (TX g E mBad) := ⟨fun pins s σ H Q I h => by obtain ⟨_, _, _, _, _, z⟩ := h; exact z.elim⟩
theorem mt_bad {e : Expr} : PT X e (TXb g E (mTest mBad)) := ⟨fun pins s σ H Q I h => by obtain ⟨_, _, _, _, _, z⟩ := h; exact z.elim⟩
theorem ms_bad {st : Stmt} : PS X st (TSx g E sBad) := ⟨fun pins s σ H D I h => by obtain ⟨_, _, _, _, _, z⟩ := h; exact z.elim⟩
end Mx
namespace Mx
open PySem L2
variable {g : G} {E : XK} {H H' : Hp} {al al' : List Addr} {s s' : Sto}
/-- frozen: what stands in cells becomes plain; no plain list or instance (it would be an argument's) -/
def frF (s : Sto) : Nat → D → Option D
  | 0, _ => none
  | k + 1, .ref m => match s[m]? with
    | some (.lst ds) => (allSome (ds.map (frF s k))).map .lst
    | some (.obj c ds) => (allSome (ds.map (frF s k))).map (.obj c)
    | _ => none
  | k + 1, .tup ds => (allSome (ds.map (frF s k))).map .tup
  | k + 1, .frz ds => (allSome (ds.map (frF s k))).map .frz
  | _ + 1, .lst _ => none
  | _ + 1, .obj _ _ => none
  | _ + 1, .twn _ _ => none
  | k + 1, .exv c ds => (allSome (ds.map (frF s k))).map (.exv c)
  | _ + 1, .non => some .non
  | _ + 1, .bl b => some (.bl b)
  | _ + 1, .int i => some (.int i)
  | _ + 1, .str x => some (.str x)
abbrev frFs (s : Sto) (k : Nat) (ds : List D) : Option (List D) := allSome (ds.map (frF s k))
def pfR (r : Rs D) (s : Sto) : Rs D := match r with
  | .ok d s' => match frF s' 100 d with
    | some d' => .ok d' s
    | none => .bad
  | .exc c ds s' => match frFs s' 100 ds with
    | some es => .exc c es s
    | none => .bad
  | .bad => .bad
def pfD (φ : List D → Sto → Rs D) (ds : List D) (s : Sto) : Rs D := match allSome (ds.map (frzD 0 s 40)) with
  | none => .bad
  | some es => pfR (φ es []) s
structure Fresh (g : G) (al al' : List Addr) : Prop where
  no : ∀ a ∈ al', a ∉ al
  noF : ∀ a ∈ al', a ∉ g.F
theorem all_reps {H' : Hp} {al1 al2 : List Addr} {g1 g2 : G} {f : D → Option D} (ih : ∀ (d d' : D) (v : V), f d = some d' → Rep g1 H' al1 v d → Rep g2 H' al2 v d') :
    ∀ (ds ds' : List D) (vs : List V), allSome (ds.map f) = some ds' → Reps g1 H' al1 vs ds → Reps g2 H' al2 vs ds'
  | [], ds', vs, h, r => by
    cases r
    have h' : (some [] : Option (List D)) = some ds' := h
    cases h'
    exact .nil
  | d :: ds, ds', vs, h, r => by
    cases r with
    | cons r1 r2 =>
      rw [List.map_cons] at h
      cases e : f d with
      | none => rw [e] at h; cases h
      | some p =>
        rw [e] at h
        have h' : (allSome (ds.map f)).map (p :: ·) = some ds' := h
        cases e2 : allSome (ds.map f) with
        | none => rw [e2] at h'; cases h'
        | some ps =>
          rw [e2] at h'; cases h'
          exact .cons (ih _ _ _ e r1) (all_reps ih ds ps _ e2 r2)
theorem frF_ok (st : StOk g H' al s) (st' : StOk g H' al' s') (fr : Fresh g al al') : ∀ (k : Nat) (d d' : D) (v : V), frF s' k d = some d' → Rep g H' al' v d → Rep g H' al v d' := by
  intro k
  induction k with
  | zero => intro d d' v h r; simp [frF] at h
  | succ k ih =>
    have ihs := all_reps (al1 := al') (al2 := al) (H' := H') ih
    intro d d' v h r
    cases d with
    | non => simp [frF] at h; subst h; cases r; exact .non
    | bl b => simp [frF] at h; subst h; cases r; exact .bl b
    | int i => simp [frF] at h; subst h; cases r; exact .int i
    | str x => simp [frF] at h; subst h; cases r; exact .str x
    | lst _ => simp [frF] at h
    | obj _ _ => simp [frF] at h
    | twn _ _ => simp [frF] at h
    | exv c ds =>
      rw [frF] at h
      obtain ⟨es, e, rfl⟩ := Option.map_eq_some_iff.mp h
      cases r with
      | exv0 h1 o =>
        cases (show (some [] : Option (List D)) = some es from e)
        exact .exv0 h1 ⟨st.no_ext h1, o.2⟩
      | exv1 h1 o hx ox l rs => exact .exv1 h1 ⟨st.no_ext h1, o.2⟩ hx ⟨st.no_xd hx, ox.2⟩ l (ihs _ _ _ e rs)
    | tup ds =>
      rw [frF] at h
      obtain ⟨es, e, rfl⟩ := Option.map_eq_some_iff.mp h
      cases r with
      | tupH h1 o rs => exact .tupH h1 ⟨st.no_tup h1, o.2⟩ (ihs _ _ _ e rs)
      | tupK q h1 rs => exact .tupK q h1 (ihs _ _ _ e rs)
    | frz ds =>
      rw [frF] at h
      obtain ⟨es, e, rfl⟩ := Option.map_eq_some_iff.mp h
      cases r with
      | frz h1 o rs => exact .frz h1 ⟨st.no_frz h1, o.2⟩ (ihs _ _ _ e rs)
      | frzK h1 rs => exact .frzK h1 (ihs _ _ _ e rs)
    | ref m =>
      cases r with
      | ref hp =>
        have hm := List.mem_of_getElem? hp
        rw [frF] at h
        cases q : s'[m]? with
        | none => rw [q] at h; cases h
        | some c =>
          rw [q] at h
          cases c with
          | lst ds =>
            obtain ⟨es, e, rfl⟩ := Option.map_eq_some_iff.mp (show (allSome (ds.map (frF s' k))).map D.lst = some d' from h)
            obtain ⟨vs, e1, rs⟩ := st'.cell m _ _ hp q
            exact .lst e1 ⟨fr.no _ hm, fr.noF _ hm⟩ (ihs _ _ _ e rs)
          | obj c ds =>
            obtain ⟨es, e, rfl⟩ := Option.map_eq_some_iff.mp (show (allSome (ds.map (frF s' k))).map (D.obj c) = some d' from h)
            obtain ⟨dx, vs, e1, l, rs⟩ := st'.cell m _ _ hp q
            exact .obj e1 ⟨fr.no _ hm, fr.noF _ hm⟩ l (ihs _ _ _ e rs)
          | dK _ => cases h
          | dT _ => cases h
          | fK _ => cases h
          | fT _ => cases h
theorem fresh_of (st : StOk g H al s) (t : Tr g [] H al' H') : Fresh g al al' := by
  obtain ⟨be, e, f1, f2⟩ := t.ex
  rw [List.nil_append] at e
  subst e
  refine ⟨fun a m z => ?_, f2⟩
  obtain ⟨o, q, _⟩ := st.there z
  rw [f1 a m] at q; cases q
theorem post_pf {r : Rs D} {Q : VK} (st : StOk g H al s) (p : Post g E (Rep g) (pfR r s) H al Q) : Post g E (Rep g) r H [] Q := by
  cases r with
  | bad => exact p
  | ok d s' =>
    intro v H' al' t st' rp
    unfold pfR at p
    cases e : frF s' 100 d with
    | none => simp only [e] at p; exact p.elim
    | some d' =>
      simp only [e] at p
      have stH := st.same (H' := H') t.all
      exact p v H' al (.same t.all) stH (frF_ok stH st' (fresh_of st t) 100 _ _ _ e rp)
  | exc c ds s' =>
    intro cls dd H' al' t st' ex
    unfold pfR at p
    cases e : frFs s' 100 ds with
    | none => simp only [e] at p; exact p.elim
    | some ds' =>
      simp only [e] at p
      have stH := st.same (H' := H') t.all
      have fo := all_reps (frF_ok stH st' (fresh_of st t) 100)
      refine p cls dd H' al (.same t.all) stH ⟨ex.1, ?_⟩
      rcases ex.2 with ⟨e1, e2⟩ | ⟨dx, vs, e1, e2, e3, e4, rs⟩
      · subst e1
        have e' : (some [] : Option (List D)) = some ds' := e
        cases e'
        exact .inl ⟨rfl, e2⟩
      · refine .inr ⟨dx, vs, e1, e2, ⟨fun z => ?_, e3.2⟩, e4, fo _ _ _ e rs⟩
        obtain ⟨n, en⟩ := List.getElem?_of_mem z
        have hn : n < s.length := by rw [← st.len]; exact (List.getElem?_eq_some_iff.mp en).1
        have kk := stH.cell n dx s[n] en (List.getElem?_eq_some_iff.mpr ⟨hn, rfl⟩)
        cases q2 : s[n] with
        | lst _ => rw [q2] at kk; obtain ⟨_, e1, _⟩ := kk; rw [e2] at e1; cases e1
        | dK _ => rw [q2] at kk; obtain ⟨_, e1, _⟩ := kk; rw [e2] at e1; cases e1
        | dT _ => rw [q2] at kk; obtain ⟨_, e1, _⟩ := kk; rw [e2] at e1; cases e1
        | obj _ _ => rw [q2] at kk; obtain ⟨_, _, e1, _⟩ := kk; rw [e2] at e1; cases e1
        | fK _ => rw [q2] at kk; obtain ⟨_, _, e1, _⟩ := kk; rw [e2] at e1; cases e1
        | fT _ => rw [q2] at kk; obtain ⟨_, _, e1, _⟩ := kk; rw [e2] at e1; cases e1
theorem fn_pf {P : Program} {w : World} {K : PySem.W.Frag} {mg : Str → Option Value} {base : Heap} {CX : CXT} {k n : Nat} {f : Addr} {fd : FuncData} {ps : List Str} {φ ψ : List D → Sto → Rs D} (F : FnOk P w K mg base CX k f fd ps (spOf g n φ))
    (h : ∀ ds s, ψ ds s = .bad ∨ pfD φ ds s = ψ ds s) : FnOk P w K mg base CX k f fd ps (spOf g n ψ) :=
  F.imp fun vs H Q E ⟨hl, Fx, ds, al, s, rs, st, p⟩ => by
    rcases h ds s with e | e
    · rw [e] at p; exact p.elim
    · rw [← e] at p
      unfold pfD at p
      cases q : allSome (ds.map (frzD 0 s 40)) with
      | none => simp only [q] at p; exact p.elim
      | some es =>
        simp only [q] at p
        exact ⟨hl, Fx, es, [], [], frzs_ok (al0 := []) (be := al) (fun d d' v => frzD_ok (al0 := []) (be := al) st 40 d d' v) ds es vs q rs, stok_nil st, post_pf st p⟩
end Mx
namespace Mx
open PySem L2
variable {g : G} {E : XK} {H H' : Hp} {al al' : List Addr} {s s' : Sto}
mutual
def nrB : D → Bool
  | .ref _ => false
  | .tup ds => nrBs ds
  | .lst ds => nrBs ds
  | .frz ds => nrBs ds
  | .obj _ ds => nrBs ds
  | .exv _ ds => nrBs ds
  | .twn _ _ => false
  | _ => true
def nrBs : List D → Bool
  | [] => true
  | d :: ds => nrB d && nrBs ds
end
def frG (s : Sto) : Nat → D → Option D
  | 0, _ => none
  | k + 1, .ref m => match s[m]? with
    | some (.lst ds) => (allSome (ds.map (frG s k))).map .lst
    | some (.obj c ds) => (allSome (ds.map (frG s k))).map (.obj c)
    | _ => none
  | k + 1, .tup ds => (allSome (ds.map (frG s k))).map .tup
  | k + 1, .frz ds => (allSome (ds.map (frG s k))).map .frz
  | k + 1, .lst ds => (allSome (ds.map (frG s k))).map .lst
  | k + 1, .obj c ds => (allSome (ds.map (frG s k))).map (.obj c)
  | k + 1, .exv c ds => (allSome (ds.map (frG s k))).map (.exv c)
  | _ + 1, .non => some .non
  | _ + 1, .bl b => some (.bl b)
  | _ + 1, .int i => some (.int i)
  | _ + 1, .str x => some (.str x)
  | _ + 1, .twn _ _ => none
abbrev frGs (s : Sto) (k : Nat) (ds : List D) : Option (List D) := allSome (ds.map (frG s k))
def pgR (r : Rs D) (s : Sto) : Rs D := match r with
  | .ok d s' => match frG s' 100 d with
    | some d' => .ok d' s
    | none => .bad
  | .exc c ds s' => match frGs s' 100 ds with
    | some es => .exc c es s
    | none => .bad
  | .bad => .bad
def pgD (φ : List D → Sto → Rs D) (ds : List D) (s : Sto) : Rs D := if nrBs ds then pgR (φ ds []) s else .bad
abbrev G.out (g : G) (al : List Addr) : G := g.wF (al ++ g.F)
mutual
theorem Rep.toOut : ∀ {v : V} {d : D}, nrB d = true → Rep g H al v d → Rep (g.out al) H [] v d
  | _, _, _, .non => .non
  | _, _, _, .bl b => .bl b
  | _, _, _, .int i => .int i
  | _, _, _, .str x => .str x
  | _, _, c, .ref _ => by cases c
  | _, _, c, .twn _ _ _ => by cases c
  | _, _, c, .tupH h o r => .tupH h ⟨(fun z => nomatch z), (fun z => (List.mem_append.mp z).elim o.1 o.2)⟩ (Reps.toOut c r)
  | _, _, c, .tupK q h r => .tupK q h (Reps.toOut c r)
  | _, _, c, .lst h o r => .lst h ⟨(fun z => nomatch z), (fun z => (List.mem_append.mp z).elim o.1 o.2)⟩ (Reps.toOut c r)
  | _, _, c, .frz h o r => .frz h ⟨(fun z => nomatch z), (fun z => (List.mem_append.mp z).elim o.1 o.2)⟩ (Reps.toOut c r)
  | _, _, c, .frzK h r => .frzK h (Reps.toOut c r)
  | _, _, c, .obj h o l r => .obj h ⟨(fun z => nomatch z), (fun z => (List.mem_append.mp z).elim o.1 o.2)⟩ l (Reps.toOut c r)
  | _, _, c, .exv0 h o => .exv0 h ⟨(fun z => nomatch z), (fun z => (List.mem_append.mp z).elim o.1 o.2)⟩
  | _, _, c, .exv1 h o hx ox l r => .exv1 h ⟨(fun z => nomatch z), (fun z => (List.mem_append.mp z).elim o.1 o.2)⟩ hx ⟨(fun z => nomatch z), (fun z => (List.mem_append.mp z).elim ox.1 ox.2)⟩ l (Reps.toOut c r)
theorem Reps.toOut : ∀ {vs : List V} {ds : List D}, nrBs ds = true → Reps g H al vs ds → Reps (g.out al) H [] vs ds
  | _, _, _, .nil => .nil
  | _, _, c, .cons h r => by
    rw [nrBs, Bool.and_eq_true] at c
    exact .cons (Rep.toOut c.1 h) (Reps.toOut c.2 r)
end
theorem Out.ofOut {a : Addr} (o : Out (g.out al) al' a) : Out g al a := ⟨fun m => o.2 (List.mem_append_left _ m), fun m => o.2 (List.mem_append_right _ m)⟩
theorem frG_ok (st' : StOk (g.out al) H' al' s') : ∀ (k : Nat) (d d' : D) (v : V), frG s' k d = some d' → Rep (g.out al) H' al' v d → Rep g H' al v d' := by
  have cellOut : ∀ {p : Addr}, p ∈ al' → Out g al p := fun m => ⟨fun z => st'.apart _ m (List.mem_append_left _ z), fun z => st'.apart _ m (List.mem_append_right _ z)⟩
  intro k
  induction k with
  | zero => intro d d' v h r; simp [frG] at h
  | succ k ih =>
    have ihs := all_reps (al1 := al') (al2 := al) (H' := H') ih
    intro d d' v h r
    cases d with
    | non => simp [frG] at h; subst h; cases r; exact .non
    | bl b => simp [frG] at h; subst h; cases r; exact .bl b
    | int i => simp [frG] at h; subst h; cases r; exact .int i
    | str x => simp [frG] at h; subst h; cases r; exact .str x
    | twn _ _ => simp [frG] at h
    | lst ds =>
      rw [frG] at h
      obtain ⟨es, e, rfl⟩ := Option.map_eq_some_iff.mp h
      cases r with
      | lst h1 o rs => exact .lst h1 o.ofOut (ihs _ _ _ e rs)
    | obj c ds =>
      rw [frG] at h
      obtain ⟨es, e, rfl⟩ := Option.map_eq_some_iff.mp h
      cases r with
      | obj h1 o l rs => exact .obj h1 o.ofOut l (ihs _ _ _ e rs)
    | exv c ds =>
      rw [frG] at h
      obtain ⟨es, e, rfl⟩ := Option.map_eq_some_iff.mp h
      cases r with
      | exv0 h1 o =>
        cases (show (some [] : Option (List D)) = some es from e)
        exact .exv0 h1 o.ofOut
      | exv1 h1 o hx ox l rs => exact .exv1 h1 o.ofOut hx ox.ofOut l (ihs _ _ _ e rs)
    | tup ds =>
      rw [frG] at h
      obtain ⟨es, e, rfl⟩ := Option.map_eq_some_iff.mp h
      cases r with
      | tupH h1 o rs => exact .tupH h1 o.ofOut (ihs _ _ _ e rs)
      | tupK q h1 rs => exact .tupK q h1 (ihs _ _ _ e rs)
    | frz ds =>
      rw [frG] at h
      obtain ⟨es, e, rfl⟩ := Option.map_eq_some_iff.mp h
      cases r with
      | frz h1 o rs => exact .frz h1 o.ofOut (ihs _ _ _ e rs)
      | frzK h1 rs => exact .frzK h1 (ihs _ _ _ e rs)
    | ref m =>
      cases r with
      | ref hp =>
        have hm := List.mem_of_getElem? hp
        rw [frG] at h
        cases q : s'[m]? with
        | none => rw [q] at h; cases h
        | some c =>
          rw [q] at h
          cases c with
          | lst ds =>
            obtain ⟨es, e, rfl⟩ := Option.map_eq_some_iff.mp (show (allSome (ds.map (frG s' k))).map D.lst = some d' from h)
            obtain ⟨vs, e1, rs⟩ := st'.cell m _ _ hp q
            exact .lst e1 (cellOut hm) (ihs _ _ _ e rs)
          | obj c ds =>
            obtain ⟨es, e, rfl⟩ := Option.map_eq_some_iff.mp (show (allSome (ds.map (frG s' k))).map (D.obj c) = some d' from h)
            obtain ⟨dx, vs, e1, l, rs⟩ := st'.cell m _ _ hp q
            exact .obj e1 (cellOut hm) l (ihs _ _ _ e rs)
          | dK _ => cases h
          | dT _ => cases h
          | fK _ => cases h
          | fT _ => cases h
theorem stok_out (st : StOk g H al s) : StOk (g.out al) H [] [] := ⟨rfl, .nil, fun a m => (List.mem_append.mp m).elim (fun z => st.there z) (st.fs a), (fun a m => nomatch m), fun n p c e1 => by simp at e1⟩
theorem Tr.allO {gg : G} (t : Tr gg [] H al' H') : ∀ a o, H a = some o → H' a = some o := fun a o e => t.keep a o (fun m => nomatch m) e
theorem post_pg {r : Rs D} {Q : VK} (st : StOk g H al s) (p : Post g E (Rep g) (pgR r s) H al Q) : Post (g.out al) E (Rep (g.out al)) r H [] Q := by
  cases r with
  | bad => exact p
  | ok d s' =>
    intro v H' al' t st' rp
    unfold pgR at p
    cases e : frG s' 100 d with
    | none => simp only [e] at p; exact p.elim
    | some d' =>
      simp only [e] at p
      exact p v H' al (.same t.allO) (st.same t.allO) (frG_ok st' 100 _ _ _ e rp)
  | exc c ds s' =>
    intro cls dd H' al' t st' ex
    unfold pgR at p
    cases e : frGs s' 100 ds with
    | none => simp only [e] at p; exact p.elim
    | some ds' =>
      simp only [e] at p
      refine p cls dd H' al (.same t.allO) (st.same t.allO) ⟨ex.1, ?_⟩
      rcases ex.2 with ⟨e1, e2⟩ | ⟨dx, vs, e1, e2, e3, e4, rs⟩
      · subst e1
        have e' : (some [] : Option (List D)) = some ds' := e
        cases e'
        exact .inl ⟨rfl, e2⟩
      · exact .inr ⟨dx, vs, e1, e2, e3.ofOut, e4, all_reps (frG_ok st' 100) _ _ _ e rs⟩
theorem fn_pg {P : Program} {w : World} {K : PySem.W.Frag} {mg : Str → Option Value} {base : Heap} {CX : CXT} {k n : Nat} {f : Addr} {fd : FuncData} {ps : List Str} {φ ψ : List D → Sto → Rs D} (F : FnOk P w K mg base CX k f fd ps (spOf g n φ))
    (h : ∀ ds s, ψ ds s = .bad ∨ pgD φ ds s = ψ ds s) : FnOk P w K mg base CX k f fd ps (spOf g n ψ) :=
  F.imp fun vs H Q E ⟨hl, Fx, ds, al, s, rs, st, p⟩ => by
    rcases h ds s with e | e
    · rw [e] at p; exact p.elim
    · rw [← e] at p
      unfold pgD at p
      by_cases c : nrBs ds = true
      · rw [if_pos c] at p
        exact ⟨hl, al ++ Fx, ds, [], [], rs.toOut c, stok_out st, post_pg st p⟩
      · rw [if_neg c] at p; exact p.elim
end Mx
namespace Mx
open PySem L2 RZ RT
theorem exV_ok {P : Program} {w : World} {H : Hp} {h : Heap} {a : Addr} {cls : Value} {d : Option Addr} {oe : Obj} {vs : Array Value} (e : h.get? a = some oe) (z : Zc cls d oe) (dd : oe.data = .fields vs) : ObjOk P w H h a (exV cls d a) :=
  ⟨⟨oe, vs, e, z, dd⟩, ⟨oe, e⟩, fun _ _ ⟨o, v, q, r⟩ k => ⟨o, v, k o q, r⟩⟩
theorem exV_at {P : Program} {w : World} {H : Hp} {h : Heap} {a : Addr} {cls : Value} {d : Option Addr} (hok : HOk P w H h) (e : H a = some (exV cls d a)) : ∃ (oe : Obj) (vs : Array Value), h.get? a = some oe ∧ Zc cls d oe ∧ oe.data = .fields vs := by
  have x : ObjOk P w H h a (.ext fun h => ∃ (oe : Obj) (vs : Array Value), h.get? a = some oe ∧ Zc cls d oe ∧ oe.data = .fields vs) := hok a _ e
  exact x.1
section
variable {X : Cx} {pins : List (Addr × Obj)} {σ : St} {H : Hp} {s : Shared}
/-- an object that lies there is tracked from now on -/
theorem Inv.track {a : Addr} {o : HO} {oe : Obj} {vs : Array Value} (I : Inv X pins σ H s) (ha : s.heap.get? a = some oe) (hd : oe.data = .fields vs) (new : ObjOk X.prog X.w (upd H a o) s.heap a o) (hn : H a = none) (h0 : X.s_0.heap.get? a = none) (nL : a ≠ X.env.locals)
    (np : ∀ p ∈ X.pn ++ pins, p.1 ≠ a) : Inv X pins σ (upd H a o) s := by
  refine ⟨I.ok, I.os, I.bare, ⟨I.base.keep, I.base.slot, fun b u q n hx => ?_, I.base.there, fun b xs q => ?_, fun b u xs q => ?_, fun b ps q => ?_⟩, I.loc, I.cell, ?_, fun x c e => ?_, fun p hp => ?_, fun b u e => ?_, I.len⟩
  · rw [upd_ne (fun z => by rw [z, h0] at q; cases q)]; exact I.base.free b u q n hx
  · have q' := I.base.tups b xs q
    rw [upd_ne (ne_of_none q' hn)]; exact q'
  · have q' := I.base.frzs b u xs q
    rw [upd_ne (ne_of_none q' hn)]; exact q'
  · obtain ⟨m, q'⟩ := I.base.tbls b ps q
    exact ⟨m, by rw [upd_ne (ne_of_none q' hn)]; exact q'⟩
  · rw [upd_ne (Ne.symm nL)]; exact I.free
  · obtain ⟨v, oc, ec, dc⟩ := I.cell x c e
    rw [upd_ne (fun z => by rw [z, ha] at ec; cases ec; rw [hd] at dc; cases dc)]
    exact I.freeC x c e
  · obtain ⟨e, n, r⟩ := I.pin p hp
    exact ⟨e, by rw [upd_ne (np p hp)]; exact n, r⟩
  · by_cases hb : b = a
    · subst hb
      rw [upd_same] at e
      cases e
      exact new
    · rw [upd_ne hb] at e
      exact (I.hok b u e).stay (fun c v _ q => q) (fun c q => by rw [upd_ne (ne_of_none q hn)]; exact q) fun c xs q => by rw [upd_ne (ne_of_none q hn)]; exact q
end
/-- a class of exceptions, as the written part has it -/
structure ExcW (K : PySem.W.Frag) (C : Addr) : Prop where
  c : ExcC K C
  t : PySem.W.typeIn K (.ref C) = some (.type "type")
theorem ExcC.cls {K : PySem.W.Frag} {C : Addr} (c : ExcC K C) : (PySem.W.clsIn K C).isSome = true := by
  obtain ⟨cd, hc, _⟩ := PySem.W.any_some c.hd
  rw [hc]; rfl
/-- isinstance(e, c), e an exception that is held -/
def rIsV (K : PySem.W.Frag) : List V → Hp → VK → Prop := fun xs H Q => ∃ (a C : Addr) (d : Option Addr) (c : V) (u : Value) (b : Bool), xs = [.ref a, c] ∧ ClsV c u ∧ H a = some (exV (.ref C) d a) ∧ (∀ dx, d = some dx → ∃ fs, H dx = some (.xd fs)) ∧ ExcC K C ∧ PySem.W.kitOne K (.ref C) u = some b ∧ Q (.bl b) H
theorem inst_at {X : Cx} {pins : List (Addr × Obj)} {σ : St} {H : Hp} {s : Shared} {a C : Addr} {d : Option Addr} (I : Inv X pins σ H s) (e : H a = some (exV (.ref C) d a)) (hd : ∀ dx, d = some dx → ∃ fs, H dx = some (.xd fs)) : ∃ oe od, PySem.W.InstAt s.heap a oe C od := by
  obtain ⟨oe, vs, ho, hz, hv⟩ := exV_at I.hok e
  cases d with
  | none =>
    refine ⟨oe, none, ?_⟩
    obtain ⟨oc, od, oda, osl⟩ := oe
    obtain ⟨h1, h2⟩ := hz
    dsimp only at h1 h2 hv
    subst h1 h2 hv
    exact ⟨ho, rfl, rfl, trivial⟩
  | some dx =>
    obtain ⟨fs, e2⟩ := hd dx rfl
    have hx : ObjOk X.prog X.w H s.heap dx (.xd fs) := I.hok dx _ e2
    obtain ⟨mA, hns, _⟩ := hx
    obtain ⟨od, ho2, _⟩ := lookIn_ns hns
    exact ⟨oe, some od, ho, hz.1, by unfold PySem.W.notCls; rw [hv] <;> rfl, by rw [hz.2]; exact ho2⟩
theorem call_isV {X : Cx} : CallR X (.builtin "isinstance") (rIsV X.K) := by
  intro pins s σ H xs us Q I r h
  obtain ⟨a, C, d, c, u, b, rfl, k, e1, e2, C', e, q⟩ := h
  obtain ⟨u1, u2, rfl, r1, r2⟩ := vals2 r
  cases (show u1 = Value.ref a from r1)
  have e3 := k.eq r2
  subst e3
  obtain ⟨oe, od, J⟩ := inst_at I e1 e2
  exact PySem.W.kia_one (PySem.W.kitx_exc (od := od) (ExcC.cls C') C'.hg C'.hk C'.hs C'.ha C'.hn C'.ht C'.hm) I.kIn J e (fun z => nomatch z) fun tk => ⟨.bl b, H, I.tok tk, rfl, q⟩
/-- .. with a tuple of classes -/
def rIsVT (K : PySem.W.Frag) : List V → Hp → VK → Prop := fun xs H Q => ∃ (a C tp : Addr) (d : Option Addr) (cs : List V) (us : List Value) (b : Bool), xs = [.ref a, .ref tp] ∧ H tp = some (.tup cs) ∧ Paired ClsV cs us ∧ H a = some (exV (.ref C) d a) ∧ (∀ dx, d = some dx → ∃ fs, H dx = some (.xd fs)) ∧ ExcC K C ∧ PySem.W.kitAny K (.ref C) us = some b ∧ Q (.bl b) H
theorem call_isVT {X : Cx} : CallR X (.builtin "isinstance") (rIsVT X.K) := by
  intro pins s σ H xs us Q I r h
  obtain ⟨a, C, tp, d, cs, ws, b, rfl, hT, k, e1, e2, C', e, q⟩ := h
  obtain ⟨u1, u2, rfl, r1, r2⟩ := vals2 r
  cases (show u1 = Value.ref a from r1)
  cases (show u2 = Value.ref tp from r2)
  obtain ⟨oe, od, J⟩ := inst_at I e1 e2
  obtain ⟨_, its, rv, o, h1, h2, n, h3⟩ := (show ObjOk X.prog X.w H s.heap tp (.tup cs) from I.hok tp _ hT)
  have e3 := ClsV.all k rv
  subst e3
  obtain ⟨oc, od2, dt, sl⟩ := o
  simp only at h2 h3
  subst h2 h3
  exact PySem.W.kia_tup (PySem.W.kitx_exc (od := od) (ExcC.cls C') C'.hg C'.hk C'.hs C'.ha C'.hn C'.ht C'.hm) I.kIn J h1 e (fun z => nomatch z) fun tk => ⟨.bl b, H, I.tok tk, rfl, q⟩
theorem callR_or {X : Cx} {f : Value} {r r2 : List V → Hp → VK → Prop} (h : CallR X f r) (k : CallR X f r2) : CallR X f (fun xs H Q => r xs H Q ∨ r2 xs H Q) := fun pins s σ H xs us Q I v z =>
  z.elim (fun z => h pins s σ H xs us Q I v z) fun z => k pins s σ H xs us Q I v z
theorem Rep.exv_inv {g : G} {H : Hp} {al : List Addr} {v : V} {c : Nat} {ds : List D} (h : Rep g H al v (.exv c ds)) : ∃ a d, v = .ref a ∧ H a = some (exV (.ref (g.ca c)) d a) ∧ (∀ dx, d = some dx → ∃ vs, H dx = some (.xd ((g.cf c).zip vs)) ∧ vs.length ≤ (g.cf c).length ∧ Reps g H al vs ds) ∧ (d = none → ds = []) := by
  cases h with
  | exv0 h1 o => exact ⟨_, none, rfl, h1, (fun _ z => nomatch z), fun _ => rfl⟩
  | exv1 h1 o hx ox l r => exact ⟨_, some _, rfl, h1, (fun dx z => by cases z; exact ⟨_, hx, l, r⟩), fun z => nomatch z⟩
structure IsX (W : Wd) (y : Str) (tyB : String → Option Bool) (isA exA : Nat → Option Bool) : Prop where
  ex : ∃ u cv, ClsV cv u ∧ IsW W u tyB isA ∧ (∀ q b, exA q = some b → ExcC W.g.K (W.g.ca q) ∧ PySem.W.kitOne W.g.K (.ref (W.g.ca q)) u = some b) ∧
    ((∃ C, W.mg y = some (.ref C) ∧ cv = .ref C ∧ u = .ref C) ∨ (∃ T, W.mg y = none ∧ bootBuiltins y = some (.type T) ∧ cv = .ty T ∧ u = .type T))
def isxD (tyB : String → Option Bool) (isA exA : Nat → Option Bool) (x : D) (s : Sto) : Rs D := match x with
  | .exv q _ => optD (exA q) fun b => .ok (.bl b) s
  | x => isiD tyB isA x s
def mIsx (tyB : String → Option Bool) (isA exA : Nat → Option Bool) (a : MD D) : MD D := fun ρ s => (a ρ s).bind (isxD tyB isA exA)
/-- a context as it is within an except suite, too -/
structure Qx (W : Wd) (c : Ct) (X : Cx) : Prop where
  prog : X.prog = W.P
  w : X.w = W.w
  K : X.K = W.g.K
  mg : X.mg = W.mg
  base : X.base = W.base
  N : X.N = c.N
  sc : X.env.scope = c.sc
  fn : X.fn = c.fn
  nd : c.N.Nodup
  kd : c.sc.kind = .function
  rm : L2H.RoomH (W.kk + 1) X.A
section
variable {W : Wd} {c : Ct} {E : XK} {X : Cx} {F : List Addr} {x y : Str} {i n j : Nat} {pos p apos p2 : Pos} {e a o d : Expr} {es : List Expr} {ma mb m : MD D} {ms : MD (List D)} {tyB : String → Option Bool} {isA exA : Nat → Option Bool}
theorem Bx.q (b : Bx W c E X) : Qx W c X := ⟨b.prog, b.w, b.K, b.mg, b.base, b.N, b.sc, b.fn, b.nd, b.kd, ⟨b.room.dp, b.room.un⟩⟩
theorem Qx.hu (b : Qx W c X) : X.A.units + 64 < cLine := by have := b.rm.un; omega
theorem Qx.gK (b : Qx W c X) : (W.g.wF F).K = X.K := b.K.symm
theorem Qx.glo (b : Qx W c X) (h : glB c x = true) : Gl X x ∧ (x == ("__debug__" : Str)) = false ∧ x ≠ "__name__" := by
  unfold glB at h
  simp only [Bool.and_eq_true, bne_iff_ne, ne_eq, beq_iff_eq] at h
  exact ⟨by show X.env.scope.names.lookup x = _; rw [b.sc]; exact h.1.1, beq_eq_false_iff_ne.mpr h.1.2, h.2⟩
theorem Qx.var (b : Qx W c X) (h : varB c i x = true) : PE X (.Name x pos) (TX (W.g.wF F) E (mVar i)) := by
  unfold varB at h
  simp only [Bool.and_eq_true, Bool.or_eq_true, bne_iff_ne, ne_eq, beq_iff_eq] at h
  obtain ⟨⟨⟨h1, h2⟩, h3⟩, h4⟩ := h
  refine me_var (pe_var (by rw [b.N]; exact h1) ?_ (beq_eq_false_iff_ne.mpr h3) (beq_eq_false_iff_ne.mpr h4))
  unfold Vis
  rw [b.sc]
  exact h2
theorem Qx.glb (b : Qx W c X) {d : D} (h : GlbW W x d) (hg : glB c x = true) : PE X (.Name x pos) (TX (W.g.wF F) E (mC d)) := by
  obtain ⟨u, v, h1, h2, h3⟩ := h.ex
  obtain ⟨g1, g2, g3⟩ := b.glo hg
  exact me_c (pe_glob g1 (by rw [b.mg]; exact h1) h2 g2) fun H al => h3 F H al
theorem Qx.add (b : Qx W c X) (k : Bool) (ha : PE X a (TX (W.g.wF F) E ma)) (hb : PE X d (TX (W.g.wF F) E mb)) : PE X (.BinOp a .Add d pos) (TX (W.g.wF F) E (mBin (addD k) ma mb)) := me_bin opr_add (ok_add b.gK) ha hb
theorem Qx.opr (b : Qx W c X) : ∀ (k : Cm), ∃ r, OpR X (compareOp k.op) r ∧ OpOk (W.g.wF F) E r k.sem
  | .eq => ⟨_, op_eqP b.hu, ok_eq b.gK⟩
  | .ne => ⟨_, op_neP b.hu, ok_ne b.gK⟩
  | .lt => ⟨_, op_lt, ok_lt⟩
  | .le => ⟨_, op_le, ok_le⟩
  | .gt => ⟨_, op_gt, ok_gt⟩
  | .ge => ⟨_, op_ge, ok_ge⟩
  | .in_ => ⟨_, OpR.or (op_inP b.hu) (op_inD b.hu), ok_in b.gK⟩
  | .nin => ⟨_, OpR.or (op_ninP b.hu) (op_ninD b.hu), ok_nin b.gK⟩
  | .is_ => ⟨_, op_isN, ok_is⟩
  | .nis => ⟨_, op_notN, ok_nis⟩
theorem Qx.cmp (b : Qx W c X) (k : Cm) {op : CmpOp} (ho : op = k.op) (hm : behindInMarks op d = false) (ha : PE X a (TX (W.g.wF F) E ma)) (hb : PE X d (TX (W.g.wF F) E mb)) : PE X (.Compare a [op] [d] pos) (TX (W.g.wF F) E (mBin k.sem ma mb)) := by
  subst ho
  obtain ⟨r, h1, h2⟩ := b.opr (F := F) k
  exact me_cmp h1 hm h2 ha hb
theorem Qx.tcmp (b : Qx W c X) (k : Cm) {op : CmpOp} (ho : op = k.op) (hm : behindInMarks op d = false) (ha : PE X a (TX (W.g.wF F) E ma)) (hb : PE X d (TX (W.g.wF F) E mb)) : PT X (.Compare a [op] [d] pos) (TXb (W.g.wF F) E (mTest (mBin k.sem ma mb))) := by
  subst ho
  obtain ⟨r, h1, h2⟩ := b.opr (F := F) k
  exact mt_cmp h1 hm h2 ha hb
theorem Qx.tname (b : Qx W c X) {vs : List Nat} (h : setB c i x = true) (hv : i ∈ vs) : PG X (.Name x pos) (tgR (W.g.wF F) E vs (tgName i)) := by
  unfold setB at h
  simp only [Bool.and_eq_true, Bool.or_eq_true, beq_iff_eq] at h
  refine mg_name (by rw [b.N]; exact b.nd) (by rw [b.N]; exact h.1) ?_ ?_ hv
  · unfold L2.Loc
    rw [b.sc]
    exact h.2.elim .inl fun z => .inr z.1
  · rw [b.sc, b.fn]
    exact h.2.elim .inr fun z => .inl z.2
theorem Qx.isx (b : Qx W c X) (h : IsX W y tyB isA exA) (h0 : BltW W "isinstance") (hg : glB c "isinstance" = true) (hy : glB c y = true) (he : PE X e (TX (W.g.wF F) E ma)) (hp : plainE e = true) :
    PE X (.Call (.Name "isinstance" p) [e, .Name y p2] [] pos) (TX (W.g.wF F) E (mIsx tyB isA exA ma)) := by
  obtain ⟨u, cv, hk, hI, hX, hy'⟩ := h.ex
  obtain ⟨g1, g2, g3⟩ := b.glo hg
  have hc : PE X (.Name y p2) (tC cv) := by
    obtain ⟨y1, y2, y3⟩ := b.glo hy
    rcases hy' with ⟨C, hm, rfl, _⟩ | ⟨T, hm, hv, rfl, _⟩
    · exact pe_glob y1 (by rw [b.mg]; exact hm) rfl y2
    · exact pe_bltn y1 (by rw [b.mg]; exact hm) hv rfl y3 y2
  refine pe_mono (pe_callB (callR_or call_isi call_isV) g1 (by rw [b.mg]; exact h0.no) (by decide +kernel) (pa_cons he (pa_cons hc pa_nil rfl) (star_cons hp)) (by decide) (by decide) (star_cons hp) (star_any rfl)) fun σ H Q ⟨ρ, al, s, er, st, q⟩ => ?_
  refine ⟨ρ, al, s, er, st, Post.bind q fun dd s1 v H1 al1 hd t st1 rp q1 => ?_⟩
  clear hd
  have old : Post (W.g.wF F) E (Rep (W.g.wF F)) (isiD tyB isA dd s1) H1 al1 Q → rIsi X.K [v, cv] H1 Q := fun q1 => by
    unfold isiD at q1
    cases et : tyNm dd s1 with
    | some ty =>
      rw [et] at q1
      obtain ⟨k, e1, q2⟩ := optD_inv (β := Nat) (γ := Nat) q1
      exact ⟨v, cv, .type ty, u, k, rfl, hk, by rw [b.K]; exact tyNm_ok (g := W.g.wF F) st1 rp et, by rw [b.K]; exact hI.ty _ _ e1, q2 _ _ _ .refl st1 (.bl _)⟩
    | none =>
      rw [et] at q1
      obtain ⟨k, e1, q2⟩ := optD_inv (β := Nat) (γ := Nat) q1
      cases ec : clsD dd s1 with
      | none => rw [ec] at e1; cases e1
      | some cl =>
        rw [ec] at e1
        obtain ⟨ds, eo⟩ := clsD_as ec
        obtain ⟨pa, dx, vs, rfl, e2, l, rs⟩ := asO_ok st1 rp eo
        obtain ⟨h1, h2, h3⟩ := hI.ins cl k e1
        refine ⟨_, cv, .ref (W.g.ca cl), u, k, rfl, hk, ?_, by rw [b.K]; exact h3, q2 _ _ _ .refl st1 (.bl _)⟩
        rw [b.K]
        exact .base (.ins e2 h1 h2.ha h2.hn h2.htk h2.hm)
  cases dd with
  | exv q ds =>
    obtain ⟨k, e1, q2⟩ := optD_inv (β := Nat) (γ := Nat) (show Post (W.g.wF F) E (Rep (W.g.wF F)) (optD (exA q) fun b => .ok (.bl b) s1) H1 al1 Q from q1)
    obtain ⟨h1, h2⟩ := hX q k e1
    obtain ⟨a', d', rfl, e3, e4, _⟩ := rp.exv_inv
    exact .inr ⟨a', _, d', cv, u, k, rfl, hk, e3, (fun dx z => let ⟨vs, z1, _⟩ := e4 dx z; ⟨_, z1⟩), by rw [b.K]; exact h1, by rw [b.K]; exact h2, q2 _ _ _ .refl st1 (.bl _)⟩
  | _ => exact .inl (old q1)
end
section
variable {W : Wd} {c : Ct} {E : XK} {X : Cx} {F : List Addr} {x y : Str} {i n j k : Nat} {pos p apos p2 pos2 : Pos} {e a o d : Expr} {es : List Expr} {ma mb m : MD D} {ms : MD (List D)}
abbrev veB : List Value := [.type "ValueError", .type "Exception", .type "BaseException", .type "object"]
/-- an own class of exceptions without an own __init__ -/
structure RaiW (W : Wd) (x : Str) (q : Nat) : Prop where
  ei : PySem.W.excIn W.g.K (W.g.ca q) veB "ValueError.__new__" = true
  g : W.mg x = some (.ref (W.g.ca q))
  k : PySem.W.keepIn W.g.K (.ref (W.g.ca q)) = true
  b : PySem.W.subIn W.g.K (.ref (W.g.ca q)) (.type "BaseException") = some true
  t : PySem.W.typeIn W.g.K (.ref (W.g.ca q)) = some (.type "type")
theorem pmk_z {X : Cx} {e : Expr} {t : St → Hp → XK → Prop} (h : L2N.PMk X e t) : PMk X e t := fun pins s σ H Q I q =>
  thn (h pins s σ H Q I q) fun u s' ⟨a, oe, vs, sI, H', cls, d, e1, e2, e3, e4, e5, z, r⟩ => ⟨a, oe, vs, sI, H', cls, d, e1, e2, e3, e4, e5, z.zc, r⟩
theorem ps_raiseN {nn : Bool} {X : Cx} {V : WX} {e : Expr} {t : St → Hp → XK → Prop} {pos : Pos} (hc : X.calm = true) (tk : tkN nn X V) (he : L2N.PMk X e t) : PS X (.Raise (some e) none pos) (fun _ σ H => t σ H fun cls d H' => V cls d σ H') := by
  cases nn with
  | true => exact L2N.ps_raise hc tk he
  | false => exact ps_raise hc tk (pmk_z he)
def sRaise (q : Nat) : MD Fl := fun _ s => .exc q [] s
theorem Sx.raise0 {q : Nat} {mm : Str} (b : Sx W c E X) (h : RaiW W x q) (hg : glB c x = true) : PS X (.Raise (some (.Call (.Name x p) [.Constant (.str mm) j p2] [] pos)) none pos2) (TSx (W.g.wF F) E (sRaise q)) :=
  ps_mono (ps_raiseN b.calm b.tk (L2N.pmk_own PySem.F.excBase_ValueError (by rw [b.K]; exact h.ei) (by rw [b.mg]; exact h.g) (by rw [b.K]; exact h.k) (raises_own (by rw [b.K]; exact h.b) (by rw [b.K]; exact h.t)) (b.glo hg).1 (b.glo hg).2.1)) fun En σ H ⟨ρ, al, s, er, st, q⟩ =>
    q _ none H al .refl st ⟨rfl, .inl ⟨rfl, rfl⟩⟩
def iniR (dx : Addr) : Hp → List (Str × V) → List (Str × V) → Hp
  | H, _, [] => H
  | H, acc, p :: r => iniR dx (upd H dx (exd dx (p :: acc))) (p :: acc) r
theorem iniR_ne {dx b : Addr} (h : b ≠ dx) : ∀ (r : List (Str × V)) (H : Hp) (acc : List (Str × V)), iniR dx H acc r b = H b
  | [], _, _ => rfl
  | p :: r, H, acc => (iniR_ne h r _ _).trans (upd_ne h)
theorem iniR_at {dx : Addr} : ∀ (r : List (Str × V)) (H : Hp) (acc : List (Str × V)), H dx = some (exd dx acc) → iniR dx H acc r dx = some (exd dx (r.reverse ++ acc))
  | [], _, _, h => h
  | p :: r, H, acc, h => by
    rw [iniR, iniR_at r _ _ upd_same]
    simp
def tIni (K : PySem.W.Frag) : List (Str × Nat) → TS
  | [] => tNext
  | (f, i) :: r => tSeq (tOst K f (tVar 0) (tVar i)) (tIni K r)
theorem ini_old {K : PySem.W.Frag} {a C dx : Addr} {σ : St} {D : Ends} (T : OexC K C) (h0 : σ[0]? = some (some (.ref a))) (na : a ≠ dx) : ∀ (l : List (Str × Nat)) (ys : List V) (H : Hp) (acc : List (Str × V)),
    l.length = ys.length → (∀ (k : Nat) (p : Str × Nat) (y : V), l[k]? = some p → ys[k]? = some y → σ[p.2]? = some (some y)) → (∀ p ∈ l, PySem.W.findIn K (.ref C) p.1 = some none) → H a = some (exo a C (some dx)) → H dx = some (exd dx acc) → acc.length + l.length ≤ 900 →
    D.nx σ (iniR dx H acc ((l.map (·.1)).zip ys)) → tIni K l D σ H
  | [], [], H, acc, _, _, _, _, _, _, q => q
  | (f, i) :: l, y :: ys, H, acc, hl, hσ, hno, ea, ed, hz, q => by
    have hz' : acc.length + (l.length + 1) ≤ 900 := by simpa using hz
    refine ⟨y, hσ 0 (f, i) y rfl rfl, .ref a, h0, a, C, rfl, T, hno _ List.mem_cons_self, .inr ⟨dx, acc, ea, ed, by omega, ?_⟩⟩
    exact ini_old T h0 na l ys _ ((f, y) :: acc) (by simpa using hl) (fun k p y' e1 e2 => hσ (k + 1) p y' (by simpa using e1) (by simpa using e2)) (fun p hp => hno p (List.mem_cons_of_mem _ hp)) (by rw [upd_ne na]; exact ea) upd_same (by rw [List.length_cons]; omega) q
  | [], _ :: _, _, _, h, _, _, _, _, _, _ => by cases h
  | _ :: _, [], _, _, h, _, _, _, _, _, _ => by cases h
theorem ini_new {K : PySem.W.Frag} {a C : Addr} {σ : St} {D : Ends} {H : Hp} (T : OexC K C) (h0 : σ[0]? = some (some (.ref a))) (l : List (Str × Nat)) (ys : List V) (hne : l ≠ []) (hl : l.length = ys.length) (hσ : ∀ (k : Nat) (p : Str × Nat) (y : V), l[k]? = some p → ys[k]? = some y → σ[p.2]? = some (some y))
    (hno : ∀ p ∈ l, PySem.W.findIn K (.ref C) p.1 = some none) (ea : H a = some (exo a C none)) (hz : l.length ≤ 800)
    (q : ∀ dx H2, H dx = none → H2 a = some (exo a C (some dx)) → H2 dx = some (exd dx ((l.map (·.1)).zip ys).reverse) → (∀ b, b ≠ a → b ≠ dx → H2 b = H b) → D.nx σ H2) : tIni K l D σ H := by
  cases l with
  | nil => exact absurd rfl hne
  | cons p l =>
    obtain ⟨f, i⟩ := p
    cases ys with
    | nil => cases hl
    | cons y ys =>
      refine ⟨y, hσ 0 (f, i) y rfl rfl, .ref a, h0, a, C, rfl, T, hno _ List.mem_cons_self, .inl ⟨ea, fun dx n ne => ?_⟩⟩
      have e1 : upd (upd H dx (exd dx [(f, y)])) a (exo a C (some dx)) dx = some (exd dx [(f, y)]) := by rw [upd_ne ne, upd_same]
      refine ini_old (dx := dx) T h0 (Ne.symm ne) l ys _ [(f, y)] (by simpa using hl) (fun k p y' e1 e2 => hσ (k + 1) p y' (by simpa using e1) (by simpa using e2)) (fun p hp => hno p (List.mem_cons_of_mem _ hp)) upd_same e1 (by simp at hz ⊢; omega) ?_
      refine q dx _ n ((iniR_ne (Ne.symm ne) _ _ _).trans upd_same) ?_ fun b h1 h2 => ((iniR_ne h2 _ _ _).trans (upd_ne h1)).trans (upd_ne h2)
      rw [iniR_at _ _ _ e1]
      simp
/-- what such an __init__ promises -/
def spI (K : PySem.W.Frag) (fs : List Str) : Sp := fun vs H Q _ => ∃ (a C : Addr) (ys : List V), vs = .ref a :: ys ∧ ys.length = fs.length ∧ OexC K C ∧ (∀ f ∈ fs, PySem.W.findIn K (.ref C) f = some none) ∧ H a = some (exo a C none) ∧
  ∀ dx H2, H dx = none → H2 a = some (exo a C (some dx)) → H2 dx = some (exd dx (fs.zip ys).reverse) → (∀ b, b ≠ a → b ≠ dx → H2 b = H b) → Q .non H2
theorem fn_ini {W : Wd} {N ps fs : List Str} {st : Stmt} {f : Addr} {name qual : Str} {dvs : List V} {kws : List (Str × V)} (FD : FunD W.g.K name qual (defArgs st) (defBody st) (defScope st) dvs kws f fd') (S : FnScope N ps (defScope st)) (hn : fs ≠ []) (h8 : fs.length ≤ 100) (hp : ps.length = fs.length + 1)
    (hm : ∀ (E : XK) (X : Cx), X.K = W.g.K → Sx W ⟨N, defScope st, fun _ => true⟩ E X → PSs X (defBody st) (tIni W.g.K (fs.zip ((List.range fs.length).map (· + 1))))) :
    FnOk W.P W.w W.g.K W.mg W.base (cxN W.nn W.P W.w) (W.kk + 2) f fd' ps (spI W.g.K fs) := by
  obtain ⟨oc, od, dV, kV, doc, pm, an, cdv, ct, osl, rfl, lk, hcd, _, _⟩ := FD.ex
  refine fn_of (k := W.kk + 1) lk hcd S (fun vs H Q E h => ?_) fun A outer s H vs Q E hr hsp => ?_
  · obtain ⟨a, C, ys, rfl, hl, _⟩ := h
    rw [List.length_cons, hl, hp]
  · obtain ⟨a, C, ys, rfl, hl, T, hno, ea, q⟩ := hsp
    have tk := takesN_of (nn := W.nn) (X := cxOf (cxN W.nn W.P W.w) W.P W.w W.g.K W.mg W.base N qual (defScope st) f cdv A outer s H E) (E := E) rfl rfl rfl rfl
    have b : Sx W ⟨N, defScope st, fun _ => true⟩ E (cxOf (cxN W.nn W.P W.w) W.P W.w W.g.K W.mg W.base N qual (defScope st) f cdv A outer s H E) :=
      ⟨⟨rfl, rfl, rfl, rfl, rfl, rfl, rfl, rfl, S.nd, rfl, S.kind, hr, passesN tk fun _ _ _ _ h => h⟩, passes_of rfl, tk, rfl, rfl, rfl⟩
    refine ⟨_, hm E _ rfl b, ?_⟩
    have hz : (fs.zip ((List.range fs.length).map (· + 1))).length = fs.length := by simp
    have hmap : (fs.zip ((List.range fs.length).map (· + 1))).map (·.1) = fs := by
      rw [List.map_fst_zip]; simp
    refine ini_new T ?_ _ ys (fun z => hn ?_) (by rw [hz, hl]) (fun k p y e1 e2 => ?_) (fun p hp => hno _ (List.of_mem_zip hp).1) ea (by rw [hz]; omega) fun dx H2 n e1 e2 e3 => q dx H2 n e1 (by rw [hmap] at e2; exact e2) e3
    · unfold L2.start; simp
    · have : (fs.zip ((List.range fs.length).map (· + 1))).length = 0 := by rw [z]; rfl
      rw [hz] at this
      exact List.length_eq_zero_iff.mp this
    · have hk : k < ys.length := (List.getElem?_eq_some_iff.mp e2).1
      have e4 : p.2 = k + 1 := by
        rw [List.getElem?_zip_eq_some] at e1
        have e5 := e1.2
        rw [List.getElem?_map, List.getElem?_range (by omega)] at e5
        simpa using e5.symm
      rw [e4]
      unfold L2.start
      rw [List.getElem?_append_left (by simp; omega), List.getElem?_map]
      simp [e2]
structure RaiIW (W : Wd) (x : Str) (q : Nat) (fs : List Str) (dds : List D) : Prop where
  ex : ∃ (fI : Addr) (fd : FuncData) (ps : List Str) (dsv : List Value) (dvs : List V), OexC W.g.K (W.g.ca q) ∧ PySem.W.findIn W.g.K (.ref (W.g.ca q)) "__init__" = some (some (.ref fI)) ∧ PySem.W.typeIn W.g.K (.ref fI) = some (.type "function") ∧
    FnOk W.P W.w W.g.K W.mg W.base (cxN W.nn W.P W.w) W.kk fI fd ps (spI W.g.K fs) ∧ Binds W.g.K fd ps dsv ∧ Vals dvs dsv ∧ (∀ F H al, Reps (W.g.wF F) H al dvs dds) ∧ W.mg x = some (.ref (W.g.ca q)) ∧ (∀ f ∈ fs, PySem.W.findIn W.g.K (.ref (W.g.ca q)) f = some none) ∧ W.g.cf q = fs.reverse ∧ fs.length ≤ 100
def sRaiseI (q : Nat) (dds : List D) (ms : MD (List D)) : MD Fl := fun ρ s => (ms ρ s).bind fun ds s => .exc q (ds ++ dds).reverse s
theorem passes_no {nn : Bool} {P : Program} {w : World} : Passes (cxN nn P w) X (fun _ _ _ => False) := fun pins σ H s e s' I h => by
  cases nn <;> (obtain ⟨_, _, _, _, _, _, _, _, _, _, _, _, z⟩ := h; exact z.elim)
theorem zip_rev {α β : Type} : ∀ {l : List α} {m : List β}, l.length = m.length → (l.zip m).reverse = l.reverse.zip m.reverse
  | [], [], _ => rfl
  | x :: l, y :: m, h => by
    have h' : l.length = m.length := by simpa using h
    rw [List.zip_cons_cons, List.reverse_cons, List.reverse_cons, List.reverse_cons, List.zip_append (by simpa using h'), zip_rev h']
    rfl
theorem Sx.raiseI {q : Nat} {fs : List Str} {dds : List D} (b : Sx W c E X) (h : RaiIW W x q fs dds) (hg : glB c x = true) (ha : AR X (e :: es) (W.g.wF F) E j ms) (hn : j + dds.length = fs.length) (h0 : W.nn = false) :
    PS X (.Raise (some (.Call (.Name x p) (e :: es) [] pos)) none pos2) (TSx (W.g.wF F) E (sRaiseI q dds ms)) := by
  have tk : Takes X (fun cls d _ H => E cls d H) := by
    have z := b.tk
    rw [h0] at z
    exact z
  obtain ⟨fI, fd, ps, dsv, dvs, T, iC, tI, F1, hb, hv, hr, hm, hno, hcf, h100⟩ := h.ex
  have hpl := ha.pl
  rw [List.all_cons, Bool.and_eq_true] at hpl
  refine ps_mono (ps_raise b.calm tk (pmk_oex (by rw [b.K]; exact T) (by rw [b.K]; exact iC) (by rw [b.K]; exact tI) (by rw [b.prog, b.w, b.K, b.mg, b.base]; exact F1) (b.room) (by rw [b.K]; exact hb) hv (passes_no (nn := W.nn) (P := W.P) (w := W.w)) (b.glo hg).1 (by rw [b.mg]; exact hm) ha.pa (b.glo hg).2.1 (star_cons hpl.1) (star_any hpl.2))) fun En σ H ⟨ρ, al, s, er, st, qq⟩ => ?_
  refine ⟨ρ, al, s, er, st, Post.bind qq fun ds s1 vs H1 al1 hds t st1 rs q1 => ?_⟩
  have lv : vs.length = j := by rw [rs.length]; exact ha.len _ _ _ _ hds
  have rr := rs.append (hr F H1 al1)
  have lvd : (vs ++ dvs).length = fs.length := by rw [rr.length, List.length_append, ← rs.length, lv]; exact hn
  refine ⟨by omega, fun a na => ?_⟩
  refine ⟨a, _, vs ++ dvs, rfl, lvd, T, hno, upd_same, fun dx H2 n e1 e2 e3 => ?_⟩
  have ndx : dx ≠ a := fun z => by rw [z, upd_same] at n; cases n
  have n1 : H1 dx = none := by rw [upd_ne ndx] at n; exact n
  refine ⟨rfl, dx, _, e1, e2, n1, ?_⟩
  have eH : upd (del H2 a) dx (.xd (fs.zip (vs ++ dvs)).reverse) = upd H1 dx (.xd (fs.zip (vs ++ dvs)).reverse) := by
    funext b'
    by_cases h1 : b' = dx
    · rw [h1, upd_same, upd_same]
    · rw [upd_ne h1, upd_ne h1]
      by_cases h2 : b' = a
      · rw [h2, del_same, na]
      · rw [del_ne h2, e3 b' h2 h1, upd_ne h2]
  rw [eH, zip_rev lvd.symm]
  have t2 : Tr (W.g.wF F) al1 H1 al1 (upd H1 dx (.xd (fs.reverse.zip (vs ++ dvs).reverse))) := .same (upd_new n1)
  refine q1 _ (some dx) _ al1 t2 (st1.same (upd_new n1)) ⟨rfl, .inr ⟨dx, (vs ++ dvs).reverse, rfl, ?_, st1.notin n1, ?_, (rr.tr t2).reverse⟩⟩
  · show upd H1 dx _ dx = some (.xd ((W.g.cf q).zip _))
    rw [upd_same, hcf]
  · show _ ≤ (W.g.cf q).length
    rw [hcf, List.length_reverse, List.length_reverse, lvd]
    exact Nat.le_refl _
end
section
variable {W : Wd} {c : Ct} {E : XK} {X : Cx} {F : List Addr} {x y : Str} {i n j k : Nat} {pos p apos p2 pos2 : Pos} {e a o d : Expr} {es : List Expr} {ma mb m : MD D} {ms : MD (List D)}
structure XFld (W : Wd) (f : Str) (ix : Nat → Option Nat) : Prop where
  ok : ∀ q k, ix q = some k → ExcC W.g.K (W.g.ca q) ∧ PySem.W.findIn W.g.K (.ref (W.g.ca q)) f = some none ∧ (W.g.cf q)[k]? = some f ∧ (W.g.cf q).Nodup
def fldX (ix : Nat → Option Nat) (x : D) (s : Sto) : Rs D := match x with
  | .exv q ds => optD (ix q) fun k => optD ds[k]? fun d => .ok d s
  | _ => .bad
def mFldX (ix : Nat → Option Nat) (a : MD D) : MD D := fun ρ s => (a ρ s).bind (fldX ix)
theorem Qx.fldX (b : Qx W c X) {f : Str} {ix : Nat → Option Nat} (h : XFld W f ix) (ha : PE X a (TX (W.g.wF F) E ma)) (hb : baseOk a = true) : PE X (.Attribute a f pos) (TX (W.g.wF F) E (mFldX ix ma)) := by
  refine ⟨fun pins s σ H Q I hh => ?_⟩
  obtain ⟨ρ, al, s0, er, st, q⟩ := hh
  refine attr_of (base_of hb) (thn (ha.run pins s σ H (fun v H1 => ∃ (aa C dd : Addr) (fs : List (Str × V)) (u : V), v = .ref aa ∧ H1 aa = some (exV (.ref C) (some dd) aa) ∧ H1 dd = some (.xd fs) ∧ ExcC X.K C ∧ PySem.W.findIn X.K (.ref C) f = some none ∧ fs.lookup f = some u ∧ Q u H1) I
    ⟨ρ, al, s0, er, st, Post.bind q fun dx s1 v H1 al1 hd t st1 rp q1 => ?_⟩) fun u s1 hh => ?_)
  · clear hd
    cases dx <;> first | exact q1.elim | skip
    rename_i qq ds
    obtain ⟨k, e1, q2⟩ := optD_inv (β := Nat) (γ := Nat) (show Post (W.g.wF F) E (Rep (W.g.wF F)) (optD (ix qq) fun k => optD ds[k]? fun d => .ok d s1) H1 al1 Q from q1)
    obtain ⟨dv, e2, q3⟩ := optD_inv (β := Nat) (γ := Nat) q2
    obtain ⟨h1, h2, h3, h4⟩ := h.ok qq k e1
    obtain ⟨aa, dd, rfl, e3, e4, e5⟩ := rp.exv_inv
    cases dd with
    | none =>
      rw [e5 rfl] at e2
      simp at e2
    | some dd =>
      obtain ⟨vs, e6, l, rs⟩ := e4 dd rfl
      obtain ⟨u, e7, e8⟩ := rs.get e2
      exact ⟨aa, _, dd, _, u, rfl, e3, e6, by rw [b.K]; exact h1, by rw [b.K]; exact h2, lookup_zip h4 h3 e7, q3 _ _ _ .refl st1 e8⟩
  · obtain ⟨v, H1, I1, rv, aa, C, dd, fs, w, rfl, e3, e6, hC, hno, hl, q1⟩ := hh
    obtain rfl : u = Value.ref aa := rv
    obtain ⟨oe, vs, ho, hz, hv⟩ := exV_at I1.hok e3
    have hx : ObjOk X.prog X.w H1 s1.heap dd (.xd fs) := I1.hok dd _ e6
    obtain ⟨mA, hns, hr⟩ := hx
    obtain ⟨od, ho2, hl2⟩ := lookIn_ns hns
    obtain ⟨u, hu, ru⟩ := RelO.some_of (v := w) (o := mA f) (by rw [← hl]; exact hr f)
    have J : PySem.W.InstAt s1.heap aa oe C (some od) := ⟨ho, hz.1, by unfold PySem.W.notCls; rw [hv] <;> rfl, by rw [hz.2]; exact ho2⟩
    exact HandSPX.exc_get I1.kIn J hC.hg hC.hk hC.hs (PySem.W.findObj_own hC.hd hno rfl (by rw [hl2, hu])) (handed_of ru) ⟨w, H1, I1.tok _, ru, q1⟩
end
def TXe (g : G) (Eσ : St → XK) (m : MD D) : TE := fun σ H Q => TX g (Eσ σ) m σ H Q
def TSe (g : G) (Eσ : St → XK) (m : MD Fl) : TS := fun En σ H => TSx g (Eσ σ) m En σ H
def mCallE (φ : List D → Sto → Rs D) (dds : List D) (ms : MD (List D)) : MD D := fun ρ s => match ms ρ s with
  | .ok ds s => φ (ds ++ dds) s
  | _ => .bad
section
variable {W : Wd} {c : Ct} {E : XK} {X : Cx} {F : List Addr} {x y : Str} {i n j k : Nat} {pos p apos p2 pos2 : Pos} {e a o d : Expr} {es : List Expr} {ma mb m : MD D} {ms : MD (List D)} {φ : List D → Sto → Rs D} {dds : List D} {Eσ : St → XK} {g : G} {mt : MD Bool} {sa sb : MD Fl} {st : Stmt} {rest as bs : List Stmt}
theorem run_fnA {CX : CXT} {kk : Nat} {f : Addr} {fd : FuncData} {ps : List Str} {sp : Sp} {ds : List Value} {dvs : List V} {pins : List (Addr × Obj)} {σ : St} {H : Hp} {s : Shared} {Q : VK} {us : List Value} {vs : List V} (F : FnOk X.prog X.w X.K X.mg X.base CX kk f fd ps sp) (hr : Room kk X.A) (hb : Binds X.K fd ps ds) (hd : Vals dvs ds) (hx : PassesAt CX X σ (Eσ σ))
    (I : Inv X pins σ H s) (r : Vals vs us) (h : sp (vs ++ dvs) H Q (Eσ σ)) : wpAny (model X.prog X.w) X.A (call (.ref f) us) (EP X pins σ Q) X.xe s := by
  have r2 := r.append hd
  have hl : (us ++ ds).length = ps.length := by rw [← r2.length]; exact F.len _ _ _ _ h
  have b := hb s us I.kIn hl
  refine wpAny_call (codeAny_mono (F.run X.A X.stack s H ⟨us, []⟩ (us ++ ds) (vs ++ dvs) Q (Eσ σ) hr I.env0 b r2 h) fun r s' hq => ?_)
  cases r with
  | error e => exact hx pins H s e s' I hq
  | ok fl =>
    cases fl with
    | ret u => exact I.after hq
    | next => exact False.elim hq
    | brk => exact False.elim hq
    | cont => exact False.elim hq
theorem Bx.callE (b : Bx W c (fun _ _ _ => False) X) (hx : ∀ σ, PassesAt (cxN W.nn X.prog X.w) X σ (Eσ σ)) (h : CallW W x n φ dds) (hg : glB c x = true) (ha : AR X (e :: es) (W.g.wF F) (fun _ _ _ => False) j ms) (hn : j + dds.length = n) :
    PE X (.Call (.Name x p) (e :: es) [] pos) (TXe (W.g.wF F) Eσ (mCallE φ dds ms)) := by
  obtain ⟨f, fd, ps, dsv, dvs, hF, hm, hk, hb, hv, hr⟩ := h.ex
  obtain ⟨g1, g2, g3⟩ := b.glo hg
  have hp := ha.pl
  rw [List.all_cons, Bool.and_eq_true] at hp
  refine ⟨fun pins s σ H Q I h => ?_⟩
  refine wpAny_Call_Name_kw (ld_glob I g1 (by rw [b.mg]; exact hm) ?_ g2)
  obtain ⟨ρ, al, s0, er, st, q⟩ := h
  refine PySem.W.callWith_K (h₀ := X.base) I.ok.mod.kin (by rw [b.K]; exact hk) (thn (ha.pa.run pos pins s σ H (fun vs H1 => spOf (W.g.wF F) n φ (vs ++ dvs) H1 Q (Eσ σ)) I ⟨ρ, al, s0, er, st, ?_⟩) fun us s1 ⟨vs, H1, I1, r, q⟩ => ⟨I1.kIn, ?_⟩) (star_cons hp.1) (star_any hp.2)
  · unfold mCallE at q
    cases em : ms ρ s0 with
    | bad => rw [em] at q; exact q.elim
    | exc _ _ _ => rw [em] at q; exact q.elim
    | ok ds s1 =>
      rw [em] at q
      intro vs H1 al1 t1 st1 rs
      have rr := rs.append (hr F H1 al1)
      refine ⟨?_, F, ds ++ dds, al1, s1, rr, st1, Post.tr (r := φ (ds ++ dds) s1) q t1⟩
      rw [rr.length, List.length_append, ha.len _ _ _ _ em, hn]
  · exact run_fnA (b.fnok (F := F) hF) (b.room.mono (Nat.le_succ _)) (by rw [b.K]; exact hb) hv (hx σ) I1 r q
theorem me_expr_e (h : PE X e (TXe g Eσ m)) (hn : noComp e = true) : PS X (.Expr e pos) (TSe g Eσ (sExpr m)) := ps_mono (ps_expr h (sw_no hn)) fun En σ H ⟨ρ, al, s, er, st, p⟩ =>
  ⟨ρ, al, s, er, st, Post.bind p fun d s1 v H1 al1 _ t st1 rp p1 => dq_ok (fv := .nx σ) p1 st1 (er.tr t)⟩
def sSetE (m : MD D) (i : Nat) : MD Fl := fun ρ s => (m ρ s).bind fun d s => .ok (.nx (ρ.set i (some d))) s
theorem Qx.setE {y : Str} {py : Pos} (b : Qx W c X) (h : PE X e (TXe g Eσ m)) (hn : noComp e = true) (hy : setB c i y = true) : PS X (.Assign [.Name y py] e pos) (TSe g Eσ (sSetE m i)) := by
  unfold setB at hy
  simp only [Bool.and_eq_true, Bool.or_eq_true, beq_iff_eq] at hy
  refine ps_mono (ps_set (by rw [b.N]; exact b.nd) (by rw [b.N]; exact hy.1) ?_ h (sw_no hn) ?_) fun En σ H ⟨ρ, al, s, er, st, p⟩ => ?_
  · unfold L2.Loc
    rw [b.sc]
    exact hy.2.elim .inl fun z => .inr z.1
  · rw [b.sc, b.fn]
    exact hy.2.elim .inr fun z => .inl z.2
  · refine ⟨ρ, al, s, er, st, Post.bind p fun d s1 v H1 al1 _ t st1 rp p1 => ?_⟩
    exact dq_ok (fv := .nx (σ.set i (some v))) p1 st1 ((er.tr t).set rp)
def sIfE (c : MD Bool) (a b : MD Fl) : MD Fl := fun ρ s => match c ρ s with
  | .ok k s => if k = true then a ρ s else b ρ s
  | _ => .bad
theorem me_if_e {c0 : Expr} (hc : PT X c0 (TXb g (fun _ _ _ => False) mt)) (ha : PSs X as (TSe g Eσ sa)) (hb : PSs X bs (TSe g Eσ sb)) : PS X (.If c0 as bs pos) (TSe g Eσ (sIfE mt sa sb)) :=
  ps_mono (ps_if hc ha hb) fun En σ H ⟨ρ, al, s, er, st, p⟩ => by
    refine ⟨ρ, al, s, er, st, ?_⟩
    unfold sIfE at p
    cases em : mt ρ s with
    | bad => rw [em] at p; exact p.elim
    | exc _ _ _ => rw [em] at p; exact p.elim
    | ok k s1 =>
      rw [em] at p
      intro v H1 al1 t st1 rp
      have rp' : v = k := rp
      subst rp'
      cases v with
      | true => simp only [if_true] at p ⊢; exact ⟨ρ, al1, s1, er.tr t, st1, Post.tr (r := sa ρ s1) p t⟩
      | false => simp only [Bool.false_eq_true, if_false] at p ⊢; exact ⟨ρ, al1, s1, er.tr t, st1, Post.tr (r := sb ρ s1) p t⟩
theorem me_one_e (h : PS X st (TSe g Eσ m')) : PSs X [st] (TSe g Eσ m') := pss_mono (pss_one h) fun En σ H z => z
end
/-- the suite's context: the exception is handled, nothing may be raised -/
abbrev Cx.held (X : Cx) (a : Addr) : Cx := { X with A := X.A.mark (some (.ref a)), calm := false, xe := fun _ _ => False }
/-- what is known of the caught one -/
structure Caught (X : Cx) (pins : List (Addr × Obj)) (σ : St) (H : Hp) (cls : Value) (d : Option Addr) (a : Addr) (s : Shared) : Prop where
  inv : Inv X pins σ H s
  un : H a = none
  new0 : X.s_0.heap.get? a = none
  loc : a ≠ X.env.locals
  out : a ∉ X.fs
  pin : ∀ p ∈ X.pn ++ pins, p.1 ≠ a
  obj : ∃ oe vs, s.heap.get? a = some oe ∧ Zc cls d oe ∧ oe.data = .fields vs
/-- from one context to another that differs in what may be raised and in what is handled -/
theorem inv_ctx {X Y : Cx} {pins : List (Addr × Obj)} {σ : St} {H : Hp} {s : Shared} (I : Inv X pins σ H s) (ok : Y.Ok) (h : Y = { X with A := Y.A, calm := Y.calm, xe := Y.xe }) : Inv Y pins σ H s := by
  obtain ⟨_, i2, i3, i4, i5, i6, i7, i8, i9, i10, i11⟩ := I
  rw [h] at ok ⊢
  exact ⟨ok, i2, i3, i4, i5, i6, i7, i8, i9, i10, i11⟩
theorem ok_held {X : Cx} (k : X.Ok) (a : Addr) : (Cx.held X a).Ok := by
  obtain ⟨k1, k2, k3, k4, k5, k6, k7, k8, _, k10, k11, k12, k13, k14, k15, k16, k17, k18⟩ := k
  exact ⟨k1, k2, k3, k4, k5, k6, k7, k8, (fun z => nomatch z), k10, k11, k12, k13, k14, k15, k16, k17, k18⟩
theorem Caught.hold {X : Cx} {pins : List (Addr × Obj)} {σ : St} {H : Hp} {cls : Value} {d : Option Addr} {a : Addr} {s : Shared} (k : Caught X pins σ H cls d a s) : Inv (Cx.held X a) pins σ (upd H a (exV cls d a)) s := by
  obtain ⟨oe, vs, h1, h2, h3⟩ := k.obj
  exact inv_ctx (Inv.track k.inv h1 h3 (exV_ok h1 h2 h3) k.un k.new0 k.loc k.pin) (ok_held k.inv.ok a) rfl
theorem Caught.of {X : Cx} {B : Heap} {pins : List (Addr × Obj)} {σ : St} {H : Hp} {cls : Value} {d : Option Addr} {a : Addr} {sI s : Shared} (hf : X.env.frame = some X.env.locals) (hs : X.stack = X.env :: X.outer) (hex : X.ex = []) (J : Inv X pins σ H sI)
    (nb : ∀ b o, sI.heap.get? b = some o → b ∉ frs X.stack → B.get? b = some o) (fl : HandSPX.FlyingZ B (X.env :: X.outer) a (Zc cls d) s.heap) (up : sI.heap.UpToSlots s.heap) (os : s.os = sI.os) (ag : PyProof.Rows.AllBare s.gens) (na : H a = none) : Caught X pins σ H cls d a s := by
  obtain ⟨st, hB, ff, _⟩ := id fl
  obtain ⟨oe, vs, h1, h2, h3⟩ := fl.there
  have noFr : a ∉ frs (X.env :: X.outer) := fun m => by
    obtain ⟨_, o, h4, h5⟩ := ff.mem m
    rw [h1] at h4; cases h4
    exact h5 _ h3
  have noI : sI.heap.get? a = none := by
    rcases q : sI.heap.get? a with _ | o
    · rfl
    · have := nb a o q (by rw [hs]; exact noFr)
      rw [hB] at this; cases this
  refine ⟨J.landed nb st up os ag, na, ?_, fun z => noFr ?_, fun m => noFr ?_, fun p hp z => ?_, oe, vs, h1, h2, h3⟩
  · rcases q : X.s_0.heap.get? a with _ | o
    · rfl
    · obtain ⟨o', z⟩ := J.base.there a o q (by rw [hex]; simp)
      rw [noI] at z; cases z
  · rw [z]; exact List.mem_filterMap.mpr ⟨X.env, by simp, hf⟩
  · obtain ⟨e, h4, h5⟩ := List.mem_filterMap.mp m
    exact List.mem_filterMap.mpr ⟨e, by simp [h4], h5⟩
  · have := (J.pin p hp).1
    rw [z, noI] at this; cases this
/-- the clause takes it, and the suite ends by its last row -/
def wHold (K : PySem.W.Frag) (c : Value) (i : Nat) (ts : TS) (N : St → Hp → Prop) : WX := fun cls d σ H => PySem.W.exmOne K cls c = some true ∧
  ∀ a, H a = none → ts { nx := fun σ' H' => N (σ'.set i none) H', rt := fun _ _ => False } (σ.set i (some (.ref a))) (upd H a (exV cls d a))
section
variable {X : Cx} {x n : Str} {c : Value} {i : Nat} {body suite : List Stmt} {b₀ : Stmt} {np pos pos' : Pos} {tb : WX → TS} {ts : TS}
theorem ps_hold (hs : X.stack = X.env :: X.outer) (hf : X.env.frame = some X.env.locals) (hex : X.ex = []) (hN : X.N.Nodup) (hi : X.N[i]? = some n) (hln : X.env.kindOf n = some .local) (hc : Names X x c)
    (hb : ∀ (W : WX) (pn : List (Addr × Obj)) (xe : Value → Shared → Prop), Takes (X.tr pn xe) W → PassesOwn (model X.prog X.w) X.A X.env xe → PSs (X.tr pn xe) body (tb W)) (hsu : ∀ a : Addr, PSs (Cx.held X a) (b₀ :: suite) ts) :
    PS X (.Try body [.ExceptHandler (some (.Name x np)) (some n) (b₀ :: suite) pos'] [] [] pos) (fun D σ H => tb (wHold X.K c i ts D.nx) { nx := D.nx, rt := fun _ _ => False } σ H) := by
  constructor
  intro pins s σ H D I h
  have hfr : X.A.frames = some (X.env :: X.outer) := by rw [I.ok.frames, hs]
  refine wpAny_Try_except (wpAny_mono ((hb (wHold X.K c i ts D.nx) (X.pn ++ pins) _ (show Takes _ _ from ?took) PassesOwn.looking).run [] s σ H _ (I.toTry _) h) ?ends fun _ _ z => z)
  case ends =>
    intro f s1 q
    cases f with
    | next =>
      obtain ⟨σ', H', J, q⟩ := q
      exact wpAny_execs_nil ⟨σ', H', J.ofTry I.ok, q⟩
    | ret u =>
      obtain ⟨_, _, _, _, _, q⟩ := q
      exact q.elim
    | brk =>
      obtain ⟨_, _, _, q⟩ := q
      exact q.elim
    | cont =>
      obtain ⟨_, _, _, q⟩ := q
      exact q.elim
  case took =>
    rintro _ s' ⟨a, B, sI, pins', σ', H', cls, d, rfl, J', nb, up, sky, na, os, ag, hm, hyes⟩
    have J : Inv X pins σ' H' sI := J'.ofTry I.ok
    refine Sky.land Zc.steady hfr hf (by rw [← hs]; exact sky) fun h3 fl3 up3 => ?_
    have k3 : Caught X pins σ' H' cls d a { s' with heap := h3 } := .of hf hs hex J nb fl3 (up.trans up3) os ag na
    obtain ⟨o3, v3, e3, z3, d3⟩ := k3.obj
    have cl3 : PySem.W.Looks (model X.prog X.w) h3 (typeOf (.ref a)) cls := fun A Q E s k q => wpAny_typeOf_ref (k _ _ e3) (by rw [z3.1]; exact q)
    have I3 := k3.hold
    have look : ∀ {Q E : Value → Shared → Prop}, Q c { s' with heap := h3 } → wpAny (model X.prog X.w) (X.A.mark (some (.ref a))) (eval (.Name x np) X.env) Q E { s' with heap := h3 } := by
      intro Q E q
      obtain ⟨g1, g2, g3 | ⟨g3, g4, g5⟩⟩ := hc
      · exact ld_glob (X := Cx.held X a) I3 g1 g3 q g2
      · exact ld_blt (X := Cx.held X a) I3 g1 g3 g4 q g5 g2
    refine wpAny_handleBy_cons (codeAny_handlers_test (look ((PySem.W.exm_one k3.inv.kIn cl3 hm).here (codeAny_handlers_suite_as (HandSPX.lands_againZ fl3 fun h4 fl4 up4 => ?_))))) (fun z => nomatch z)
    have I4 := (Caught.of (s := { s' with heap := h4 }) hf hs hex J nb fl4 ((up.trans up3).trans up4) os ag na).hold
    refine store_ok (X := Cx.held X a) (v := .ref a) I4 hN hi (.inl hln) rfl (fun s5 I5 => wpAny_mono ((hsu a).run pins s5 _ _ _ I5 (hyes a na)) (fun f s6 q => ?_) fun _ _ z => z.elim) (.inr hln)
    cases f with
    | next =>
      obtain ⟨σ6, H6, I6, q⟩ := q
      exact gone_ok (inv_ctx (Y := X) I6 I.ok rfl) hN hi hln fun s7 I7 => ⟨_, _, I7, q⟩
    | ret u =>
      obtain ⟨_, _, _, _, _, q⟩ := q
      exact q.elim
    | brk =>
      obtain ⟨_, _, _, q⟩ := q
      exact q.elim
    | cont =>
      obtain ⟨_, _, _, q⟩ := q
      exact q.elim
end
/-- the clause's class, as the body's exceptions meet it -/
structure ExmW (W : Wd) (x : Str) (ex : Nat → Option Bool) : Prop where
  ex : ∃ C, W.mg x = some (.ref C) ∧ ∀ q b, ex q = some b → PySem.W.exmOne W.g.K (.ref (W.g.ca q)) (.ref C) = some b
def sTry (i : Nat) (ex : Nat → Option Bool) (m suite : MD Fl) : MD Fl := fun ρ s => match m ρ s with
  | .ok (.nx ρ') s' => .ok (.nx ρ') s'
  | .exc q ds s' => if ex q = some true then (match suite (ρ.set i (some (.exv q ds))) s' with
      | .ok (.nx ρ') s'' => .ok (.nx (ρ'.set i none)) s''
      | _ => .bad) else .bad
  | _ => .bad
section
variable {W : Wd} {c : Ct} {E : XK} {X : Cx} {F : List Addr} {x n : Str} {i : Nat} {body suite : List Stmt} {b₀ : Stmt} {np pos pos' : Pos} {m ms : MD Fl} {ex : Nat → Option Bool}
theorem Sx.qT (b : Sx W c E X) (a : Addr) : Qx W c (Cx.held X a) := ⟨b.prog, b.w, b.K, b.mg, b.base, b.N, b.sc, b.fn, b.nd, b.kd, ⟨b.room.dp, b.room.un⟩⟩
theorem takes_no {X : Cx} : Takes X (fun _ _ _ _ => False) := fun _ _ x => by
  obtain ⟨_, _, _, _, _, _, _, _, _, _, _, _, _, _, _, _, z⟩ := x
  exact z.elim
theorem takesN_no {nn : Bool} {X : Cx} : tkN nn X (fun _ _ _ _ => False) := by
  cases nn with
  | false => exact takes_no
  | true =>
    intro _ _ x
    obtain ⟨_, _, _, _, _, _, _, _, _, _, _, _, _, _, _, _, z⟩ := x
    exact z.elim
/-- the body's context: what is not the raising call raises nothing -/
theorem Sx.tr (b : Sx W c E X) {pn : List (Addr × Obj)} {xe : Value → Shared → Prop} (hp : PassesOwn (model X.prog X.w) X.A X.env xe) : Sx W c (fun _ _ _ => False) (X.tr pn xe) :=
  ⟨⟨b.prog, b.w, b.K, b.mg, b.base, b.N, b.sc, b.fn, b.nd, b.calm, b.kd, b.room, passes_no⟩, hp, takesN_no, b.ex0, b.stk, b.frm⟩
theorem Sx.try_ (b : Sx W c E X) (h0 : W.nn = false) (h : ExmW W x ex) (hg : glB c x = true) (hn : c.N[i]? = some n) (hl : c.sc.names.lookup n = some .local)
    (hb : ∀ (X' : Cx) (Eσ : St → XK), Sx W c (fun _ _ _ => False) X' → (∀ σ, PassesAt (cxN W.nn X'.prog X'.w) X' σ (Eσ σ)) → PSs X' body (TSe (W.g.wF F) Eσ m))
    (hsu : ∀ X', Qx W c X' → PSs X' (b₀ :: suite) (TSx (W.g.wF F) (fun _ _ _ => False) ms)) :
    PS X (.Try body [.ExceptHandler (some (.Name x np)) (some n) (b₀ :: suite) pos'] [] [] pos) (TSx (W.g.wF F) E (sTry i ex m ms)) := by
  have tk : Takes X (fun cls d _ H => E cls d H) := by
    have z := b.tk
    rw [h0] at z
    exact z
  obtain ⟨C, hm, hex⟩ := h.ex
  obtain ⟨g1, g2, g3⟩ := b.glo hg
  refine ps_mono (ps_hold (i := i) (n := n) (c := .ref C) (tb := fun W' => TSe (W.g.wF F) (WE W') m) (ts := TSx (W.g.wF F) (fun _ _ _ => False) ms) b.stk b.frm b.ex0 (by rw [b.N]; exact b.nd) (by rw [b.N]; exact hn)
    (by show X.env.scope.names.lookup n = _; rw [b.sc]; exact hl) ⟨g1, g2, .inl (by rw [b.mg]; exact hm)⟩ (fun W' pn xe tk po => hb _ _ (b.tr po) fun σ => by rw [h0]; exact passAt tk σ) fun a => hsu _ (b.qT a)) fun En σ H ⟨ρ, al, s, er, st, q⟩ => ?_
  refine ⟨ρ, al, s, er, st, ?_⟩
  unfold sTry at q
  cases em : m ρ s with
  | bad => rw [em] at q; exact q.elim
  | ok f s' =>
    rw [em] at q
    intro fv H' al' t' st' rf
    cases f with
    | nx ρ' =>
      cases fv with
      | nx σ' => exact (show En.nx σ' H' from q (.nx σ') H' al' t' st' rf)
      | ret _ => exact rf.elim
      | bk _ => exact rf.elim
      | ct _ => exact rf.elim
    | ret _ => exact q.elim
    | bk _ => exact q.elim
    | ct _ => exact q.elim
  | exc qq ds s' =>
    rw [em] at q
    intro cls dd H' al' t' st' xr
    obtain ⟨rfl, hxr⟩ := xr
    simp only at q
    by_cases ee : ex qq = some true
    · rw [if_pos ee] at q
      refine ⟨by rw [b.K]; exact hex qq true ee, fun aa na => ?_⟩
      have t2 : Tr (W.g.wF F) al' H' al' (upd H' aa (exV (.ref (W.g.ca qq)) dd aa)) := .same (upd_new na)
      have rp : Rep (W.g.wF F) (upd H' aa (exV (.ref (W.g.ca qq)) dd aa)) al' (.ref aa) (.exv qq ds) := by
        rcases hxr with ⟨rfl, rfl⟩ | ⟨dx, vs, rfl, e2, e3, e4, rs⟩
        · exact .exv0 upd_same (st'.notin na)
        · exact .exv1 upd_same (st'.notin na) (upd_new na _ _ e2) e3 e4 (rs.tr t2)
      refine ⟨ρ.set i (some (.exv qq ds)), al', s', ((er.tr t').tr t2).set rp, st'.same (upd_new na), ?_⟩
      cases es : ms (ρ.set i (some (.exv qq ds))) s' with
      | bad => rw [es] at q; exact q.elim
      | exc _ _ _ => rw [es] at q; exact q.elim
      | ok f s2 =>
        rw [es] at q
        intro fv H2 al2 t3 st2 rf
        cases f with
        | nx ρ' =>
          cases fv with
          | nx σ' => exact (show En.nx (σ'.set i none) H2 from q (.nx (σ'.set i none)) H2 al2 ((t'.trans t2).trans t3) st2 (EnvR.setNone rf i))
          | ret _ => exact rf.elim
          | bk _ => exact rf.elim
          | ct _ => exact rf.elim
        | ret _ => exact q.elim
        | bk _ => exact q.elim
        | ct _ => exact q.elim
    · rw [if_neg ee] at q
      exact q.elim
end
def sTryN (ex : Nat → Option Bool) (m suite : MD Fl) : MD Fl := fun ρ s => match m ρ s with
  | .ok f s' => .ok f s'
  | .exc q ds s' => match ex q with
    | some true => match suite ρ s' with
      | .ok f s'' => .ok f s''
      | _ => .bad
    | some false => .exc q ds s'
    | none => .bad
  | .bad => .bad
section
variable {W : Wd} {c : Ct} {E : XK} {X : Cx} {F : List Addr} {x n : Str} {i q : Nat} {body suite : List Stmt} {b₀ : Stmt} {np p pos pos' pos2 : Pos} {m ms : MD Fl} {ex : Nat → Option Bool} {e : Expr} {es : List Expr}
theorem Sx.tryN (b : Sx W c E X) (h0 : W.nn = false) (h : ExmW W x ex) (hg : glB c x = true)
    (hb : ∀ (X' : Cx) (Eσ : St → XK), Sx W c (fun _ _ _ => False) X' → (∀ σ, PassesAt (cxN W.nn X'.prog X'.w) X' σ (Eσ σ)) → PSs X' body (TSe (W.g.wF F) Eσ m))
    (hsu : ∀ X', Qx W c X' → PSs X' (b₀ :: suite) (TSx (W.g.wF F) (fun _ _ _ => False) ms)) :
    PS X (.Try body [.ExceptHandler (some (.Name x np)) none (b₀ :: suite) pos'] [] [] pos) (TSx (W.g.wF F) E (sTryN ex m ms)) := by
  have tk : Takes X (fun cls d _ H => E cls d H) := by
    have z := b.tk
    rw [h0] at z
    exact z
  obtain ⟨C, hm, hex⟩ := h.ex
  obtain ⟨g1, g2, g3⟩ := b.glo hg
  refine ps_mono (ps_try_only (c := .ref C) (tb := fun W' => TSe (W.g.wF F) (WE W') m) (ts := fun _ _ _ => TSx (W.g.wF F) (fun _ _ _ => False) ms) (Wout := fun cls d _ H => E cls d H) b.stk b.frm
    ⟨g1, g2, .inl (by rw [b.mg]; exact hm)⟩ tk (fun W' pn xe tk po => hb _ _ (b.tr po) fun σ => by rw [h0]; exact passAt tk σ) fun a oe cls d pn _ _ => hsu _ ⟨b.prog, b.w, b.K, b.mg, b.base, b.N, b.sc, b.fn, b.nd, b.kd, ⟨b.room.dp, b.room.un⟩⟩) fun En σ H ⟨ρ, al, s, er, st, q⟩ => ?_
  refine ⟨ρ, al, s, er, st, ?_⟩
  unfold sTryN at q
  cases em : m ρ s with
  | bad => rw [em] at q; exact q.elim
  | ok f s' => rw [em] at q; exact q
  | exc qq ds s' =>
    rw [em] at q
    intro cls dd H' al' t' st' xr
    obtain ⟨hcls, hxr⟩ := xr
    subst hcls
    cases ee : ex qq with
    | none => simp only [ee] at q; exact q.elim
    | some bb =>
      simp only [ee] at q
      have h1 := hex qq bb ee
      refine ⟨bb, by rw [b.K]; exact h1, fun hbt aa na => ?_, fun hbf => ?_⟩
      · subst hbt
        simp only at q
        refine ⟨ρ, al', s', er.tr t', st', ?_⟩
        cases es : ms ρ s' with
        | bad => rw [es] at q; exact q.elim
        | exc _ _ _ => rw [es] at q; exact q.elim
        | ok f s2 =>
          rw [es] at q
          exact fun fv H2 al2 t3 st2 rf => q fv H2 al2 (t'.trans t3) st2 rf
      · subst hbf
        simp only at q
        exact q _ dd H' al' t' st' ⟨rfl, hxr⟩
end
section
variable {W : Wd} {c : Ct} {E : XK} {X : Cx} {i : Nat} {f x : Str} {p1 p2 p3 pos : Pos} {K : PySem.W.Frag} {st : Stmt} {rest : List Stmt} {l : List (Str × Nat)}
theorem Bx.pvar (b : Bx W c E X) (h : varB c i x = true) : PE X (.Name x pos) (tVar i) := by
  unfold varB at h
  simp only [Bool.and_eq_true, Bool.or_eq_true, bne_iff_ne, ne_eq, beq_iff_eq] at h
  obtain ⟨⟨⟨h1, h2⟩, h3⟩, h4⟩ := h
  refine pe_var (by rw [b.N]; exact h1) ?_ (beq_eq_false_iff_ne.mpr h3) (beq_eq_false_iff_ne.mpr h4)
  unfold Vis
  rw [b.sc]
  exact h2
theorem Sx.ost (b : Sx W c E X) (hK : X.K = W.g.K) (h0 : varB c 0 "self" = true) (hi : varB c i x = true) (h2 : PSs X rest (tIni W.g.K l)) : PSs X (.Assign [.Attribute (.Name "self" p1) f p2] (.Name x p3) pos :: rest) (tIni W.g.K ((f, i) :: l)) := by
  rw [← hK] at h2 ⊢
  exact pss_cons (ps_ost (b.pvar h0) (b.pvar hi) sw_attr) h2
theorem ini_nil : PSs X [] (tIni K []) := pss_nil
end
section
open He
variable {K : PySem.W.Frag} {h : Heap} {mg : Str → Option Value} {W : Wd}
theorem exc_ok {x : Str} (c : (Fq.exc x).ok K = true) : ExcW K (ga K x) := by
  obtain ⟨c1, c⟩ := ba c
  obtain ⟨c2, c⟩ := ba c
  obtain ⟨c3, c⟩ := ba c
  obtain ⟨c4, c⟩ := ba c
  obtain ⟨c5, c⟩ := ba c
  obtain ⟨c6, c⟩ := ba c
  obtain ⟨c7, c⟩ := ba c
  obtain ⟨c8, c9⟩ := ba c
  exact ⟨⟨of_decide_eq_true c1, of_decide_eq_true c2, of_decide_eq_true c3, c4, of_decide_eq_true c5, of_decide_eq_true c6, of_decide_eq_true c7, of_decide_eq_true c8⟩, of_decide_eq_true c9⟩
theorem exm_ok {x y : Str} {b : Bool} (c : (Fq.exm x y b).ok K = true) : PySem.W.exmOne K (.ref (ga K x)) (.ref (ga K y)) = some b := of_decide_eq_true c
theorem noa_ok {x f : Str} (c : (Fq.noa x f).ok K = true) : PySem.W.findIn K (.ref (ga K x)) f = some none := of_decide_eq_true c
theorem rai_ok {x : Str} {q : Nat} (e : ExcW W.g.K (ga W.g.K x)) (c : (Fq.rai x).ok W.g.K = true) (hC : W.g.ca q = ga W.g.K x) (hm : W.mg x = some (.ref (ga W.g.K x))) : RaiW W x q := by
  obtain ⟨c1, c2⟩ := ba c
  refine ⟨by rw [hC]; exact c1, by rw [hC]; exact hm, by rw [hC]; exact c2, by rw [hC]; exact e.c.hs, by rw [hC]; exact e.t⟩
theorem oexB_ok {C : Addr} (c : oexB K C = true) : ∃ nm q N bs bm sn sub ab col dd k0 k1 k2 k3 k5, K.lookup C = some (excClassObj nm q C N bs bm true sn sub ab col dd k0 k1 k2 k3 k5 "ValueError.__new__") ∧ PySem.HandSPX.refsVE bm = true := by
  unfold oexB at c
  split at c
  · rename_i t dd cd sl ho
    split at c
    · rename_i C' bm k0 k1 k2 k3 n k5 hm hs
      simp only [Bool.and_eq_true, decide_eq_true_eq, beq_iff_eq, Bool.not_eq_true'] at c
      obtain ⟨rfl, rfl, rfl, hdel, hdct, hok⟩ := c
      obtain ⟨nm, bs, mro, ns, qn, hd, sn, sub, ab, col, del⟩ := cd
      dsimp only at hm hdel hok hdct
      subst hm hdel hdct
      have hsl : sl = #[k0, k1, k2, k3, some (.builtin "ValueError.__new__"), k5] := by
        obtain ⟨l⟩ := sl
        simp only at hs
        rw [hs]
      subst hsl
      exact ⟨nm, qn, ns, bs, bm, sn, sub, ab, col, dd, k0, k1, k2, k3, k5, ho, hok⟩
    · cases c
  · cases c
theorem oex_ok {x : Str} (e : ExcW K (ga K x)) (c : (Fq.oex x).ok K = true) : OexC K (ga K x) ∧ PySem.W.findIn K (.ref (ga K x)) "__init__" = some (some (.ref (ma K (ga K x) "__init__"))) ∧ PySem.W.typeIn K (.ref (ma K (ga K x) "__init__")) = some (.type "function") := by
  obtain ⟨c1, c⟩ := ba c
  obtain ⟨c2, c⟩ := ba c
  obtain ⟨c3, c⟩ := ba c
  obtain ⟨c4, c5⟩ := ba c
  exact ⟨⟨oexB_ok c1, of_decide_eq_true c2, e.c.hs, e.t, c3⟩, of_decide_eq_true c4, of_decide_eq_true c5⟩
theorem raiI_of {x : Str} {q k : Nat} {fI : Addr} {fd : FuncData} {ps fs : List Str} {dds : List D} {dvs : List V} (z : OexC W.g.K (ga W.g.K x) ∧ PySem.W.findIn W.g.K (.ref (ga W.g.K x)) "__init__" = some (some (.ref fI)) ∧ PySem.W.typeIn W.g.K (.ref fI) = some (.type "function"))
    (O : FnOk W.P W.w W.g.K W.mg W.base (cxN W.nn W.P W.w) k fI fd ps (spI W.g.K fs)) (hk : k ≤ W.kk) (hb : ∃ ds, Vals dvs ds ∧ Binds W.g.K fd ps ds) (hd : allSome (dds.map plainV) = some dvs) (hC : W.g.ca q = ga W.g.K x) (hm : W.mg x = some (.ref (ga W.g.K x)))
    (hno : ∀ f ∈ fs, PySem.W.findIn W.g.K (.ref (ga W.g.K x)) f = some none) (hcf : W.g.cf q = fs.reverse) (h8 : fs.length ≤ 100) : RaiIW W x q fs dds := by
  obtain ⟨ds, h1, h2⟩ := hb
  exact ⟨fI, fd, ps, ds, dvs, by rw [hC]; exact z.1, by rw [hC]; exact z.2.1, z.2.2, O.mono hk, h2, h1, fun _ _ _ => plainVs_ok hd, by rw [hC]; exact hm, by rw [hC]; exact hno, hcf, h8⟩
theorem tyV_all : ∀ t ∈ tyL, kitB t "ValueError" = some false := by decide +kernel
theorem tyV_ok : ∀ t b, tyF t = some b → PySem.W.kitOne K (.type t) (.type "ValueError") = some b := fun t b hb => by
  unfold tyF at hb
  by_cases q : tyL.contains t = true
  · rw [if_pos q] at hb
    cases hb
    rw [List.contains_iff_mem] at q
    exact kit_ty (tyV_all t q)
  · rw [if_neg q] at hb; cases hb
end
end Mx
namespace Mx
open PySem L2
def mMethE (disp : Nat → Option (List D → Sto → Rs D)) (dds : List D) (mo : MD D) (ms : MD (List D)) : MD D := fun ρ s => match mo ρ s with
  | .ok x s1 => optD ((clsD x s1).bind disp) fun φ => match ms ρ s1 with
    | .ok ds s2 => φ (x :: (ds ++ dds)) s2
    | _ => .bad
  | _ => .bad
section
variable {W : Wd} {c : Ct} {E : XK} {X : Cx} {F : List Addr} {n j : Nat} {pos apos : Pos} {e o : Expr} {es : List Expr} {ma : MD D} {ms : MD (List D)} {dds : List D} {Eσ : St → XK}
theorem Bx.methE (b : Bx W c (fun _ _ _ => False) X) {m : Str} {disp : Nat → Option (List D → Sto → Rs D)} (hx : ∀ σ, PassesAt (cxN W.nn X.prog X.w) X σ (Eσ σ)) (h : MethW W m n dds disp) (ho : PE X o (TX (W.g.wF F) (fun _ _ _ => False) ma)) (hbo : baseOk o = true) (ha : AR X (e :: es) (W.g.wF F) (fun _ _ _ => False) j ms) (hn : j + dds.length + 1 = n) (h30 : (e :: es).length < 30) (hpo : (apos.endLine == pos.line) = true) :
    PE X (.Call (.Attribute o m apos) (e :: es) [] pos) (TXe (W.g.wF F) Eσ (mMethE disp dds ma ms)) := by
  obtain ⟨dsv, dvs, hd, hr, hM0⟩ := h.ex
  have hM := b.mtok (F := F) hM0
  have hp := ha.pl
  refine ⟨fun pins s σ H Q I h => ?_⟩
  have ht := ht_of (m := m) (env := X.env) hbo hp h30 hpo
  rw [List.all_cons, Bool.and_eq_true] at hp
  obtain ⟨ρ, al, s0, er, st, q⟩ := h
  refine methcall_of (args := e :: es) ho I ⟨ρ, al, s0, er, st, ?_⟩ ht
  unfold mMethE at q
  cases em : ma ρ s0 with
  | bad => rw [em] at q; exact q.elim
  | exc _ _ _ => rw [em] at q; exact q.elim
  | ok x s1 =>
    rw [em] at q
    intro v H1 al1 t1 st1 rp
    have q := Post.tr q t1
    obtain ⟨φ, e0, p⟩ := optD_inv (β := Nat) (γ := Nat) q
    cases ec : clsD x s1 with
    | none => rw [ec] at e0; cases e0
    | some k =>
      rw [ec] at e0
      obtain ⟨es', eo⟩ := clsD_as ec
      obtain ⟨a, dx, vs0, rfl, e2, l, rs⟩ := asO_ok st1 rp eo
      have M := hM k φ e0
      obtain ⟨f, fd, ps, mt, FO, hb⟩ := M.ex
      refine ⟨a, (W.g.wF F).ca k, dx, _, f, rfl, e2, by rw [← b.gK (F := F)]; exact M.cl.cl, by rw [← b.gK (F := F)]; exact mt, lookup_zip_none M.no, fun s2 I2 => ?_⟩
      refine PySem.W.callWith_K (first := [.ref a]) (h₀ := X.base) I2.ok.mod.kin (by rw [← b.gK (F := F)]; exact mt.kp) (thn (ha.pa.run pos pins s2 σ H1 (fun vs H2 => spOf (W.g.wF F) n φ (.ref a :: (vs ++ dvs)) H2 Q (Eσ σ)) I2 ⟨ρ, al1, s1, er.tr t1, st1, ?_⟩) fun us s3 ⟨vs, H2, I3, r, q2⟩ => ⟨I3.kIn, ?_⟩) (star_cons hp.1) (star_any hp.2)
      · cases em2 : ms ρ s1 with
        | bad => rw [em2] at p; exact p.elim
        | exc _ _ _ => rw [em2] at p; exact p.elim
        | ok ds s3 =>
          rw [em2] at p
          intro vs H2 al2 t2 st2 rs2
          have r2 := rs2.append (hr F H2 al2)
          exact ⟨by simp only [List.length_cons]; rw [r2.length, List.length_append, ha.len _ _ _ _ em2]; exact hn, F, _, al2, s3, .cons (rp.tr t2) r2, st2, Post.tr (r := φ (x :: (ds ++ dds)) s3) p t2⟩
      · exact run_fnA (us := .ref a :: us) (vs := .ref a :: vs) FO (b.room.mono (Nat.le_succ _)) hb hd (hx σ) I3 (.cons rfl r) q2
end
def tgLst (ts : List D → MD Ro) : D → MD Ro := fun d ρ s => match asL d s with
  | some ds => ts ds ρ s
  | none => .bad
section
variable {W : Wd} {c : Ct} {E : XK} {X : Cx} {F : List Addr} {n k : Nat} {pos : Pos} {es : List Expr} {ts : List D → MD Ro} {vs : List Nat}
theorem Bx.tlst (b : Bx W c E X) (h : TR X es (W.g.wF F) E vs n ts) : PG X (.Tuple es k pos) (tgR (W.g.wF F) E vs (tgLst ts)) :=
  pg_mono (pg_lst (n := n) b.calm h.pg (by rw [assign_len, h.sz]) (assign_star h.pl)) fun v σ H Q ⟨d, ρ, al, s, rp, er, st, p⟩ => by
    unfold tgLst at p
    cases e : asL d s with
    | none => rw [e] at p; exact p.elim
    | some ds =>
      rw [e] at p
      change Post _ _ _ (ts ds ρ s) _ _ _ at p
      obtain ⟨pa, ws, e1, sq, rs⟩ := asL_ok st rp e
      rw [b.gK (F := F)] at sq
      have hlen : ds.length = n := Classical.byContradiction fun z => by rw [h.bad ds ρ s z] at p; exact p.elim
      exact ⟨pa, ws, e1, sq, by rw [rs.length, hlen], ds, ρ, al, s, rs, er, st, p⟩
theorem nox_lst {g : G} {vs : List Nat} {ts : List D → MD Ro} (h : TR X es g E vs n ts) : NoX (tgLst ts) := fun d ρ s c ds s' q => by
  unfold tgLst at q
  cases e : asL d s with
  | none => rw [e] at q; cases q
  | some es => rw [e] at q; exact h.nox _ _ _ _ _ _ q
end
@[simp] theorem tgLst_e {ts : List D → MD Ro} {ds : List D} {ρ : Ro} {s : Sto} : tgLst ts (.lst ds) ρ s = ts ds ρ s := rfl
end Mx
namespace Mx
open PySem L2
def keyI : Key → Option Int
  | .inl i => some i
  | .inr _ => none
def keysI (kvs : List (Key × D)) : Option (List Int) := allSome (kvs.map fun kv => keyI kv.1)
theorem keysI_inv : ∀ {ks : List Key} {is : List Int}, allSome (ks.map keyI) = some is → ks = is.map Sum.inl
  | [], _, h => by cases h; rfl
  | k :: ks, is, h => by
    rw [List.map_cons] at h
    cases k with
    | inr x => cases h
    | inl i =>
      have h2 : (allSome (ks.map keyI)).map (i :: ·) = some is := h
      obtain ⟨js, e, rfl⟩ := Option.map_eq_some_iff.mp h2
      rw [List.map_cons, keysI_inv e]
def kSrtD (c : Bool) (x : D) (s : Sto) : Rs D := match x with
  | .ref n => match s[n]? with
    | some (.dK kvs) => optD (keysI kvs) fun is => if is.length < 64 then newL c ((srtI is).map D.int) s else .bad
    | _ => .bad
  | _ => .bad
def mSrtD (c : Bool) (m : MD D) : MD D := fun ρ s => (m ρ s).bind (kSrtD c)
section
variable {W : Wd} {c : Ct} {E : XK} {X : Cx} {F : List Addr} {pos p : Pos} {a : Expr} {ma : MD D}
theorem Bx.srtD (b : Bx W c E X) (k : Bool) (z : BltW W "sorted") (hg : glB c "sorted" = true) (ha : PE X a (TX (W.g.wF F) E ma)) (hp : plainE a = true) :
    PE X (.Call (.Name "sorted" p) [a] [] pos) (TX (W.g.wF F) E (mSrtD k ma)) := by
  obtain ⟨g1, g2, g3⟩ := b.glo hg
  refine pe_mono (pe_callB (call_sortedDI b.calm) g1 (by rw [b.mg]; exact z.no) (by decide +kernel) (pa_cons ha pa_nil (star_cons hp)) g3 g2 (star_cons hp) (star_any rfl)) fun σ H Q ⟨ρ, al, s, er, st, q⟩ => ?_
  refine ⟨ρ, al, s, er, st, Post.bind q fun x s1 v H1 al1 hx t st1 rp q1 => ?_⟩
  clear hx
  unfold kSrtD at q1
  cases x <;> first | exact q1.elim | skip
  rename_i n
  cases rp with
  | ref hq =>
    cases e1 : s1[n]? with
    | none => simp only [e1] at q1; exact q1.elim
    | some cc =>
      simp only [e1] at q1
      cases cc with
      | dK kvs =>
        obtain ⟨is, e2, q2⟩ := optD_inv (β := Nat) (γ := Nat) q1
        obtain ⟨kv, h1, h2, _⟩ := st1.cell n _ _ hq e1
        by_cases l : is.length < 64
        · rw [if_pos l] at q2
          have hk : kv.map (·.1) = is.map Sum.inl := by
            rw [h2]
            have : allSome ((kvs.map (·.1)).map keyI) = some is := by rw [List.map_map]; exact e2
            exact keysI_inv this
          refine ⟨_, kv, is, rfl, .inl h1, hk, l, fun ys pp perm srt np => ?_⟩
          have hu : ys = srtI is := srtI_uniq perm srt
          subst hu
          exact post_newL st1 Reps.ints q2 pp np
        · rw [if_neg l] at q2; exact q2.elim
      | _ => exact q1.elim
end
def neED (x y : D) (s : Sto) : Rs D := match x, y with
  | .ref n, .ref m => match s[n]?, s[m]? with
    | some (.dK kvs), some (.dK []) => .ok (.bl (!kvs.isEmpty)) s
    | _, _ => .bad
  | _, _ => .bad
def rNeE : R2 := fun x y H Q => ∃ a b ks, x = .ref a ∧ y = .ref b ∧ H a = some (.dK ks) ∧ H b = some (.dK []) ∧ Q (.bl (!ks.isEmpty)) H
theorem op_neE {X : Cx} (hu : X.A.units < cLine) : OpR X (compareOp .NotEq) rNeE := by
  intro pins s σ H x y v u Q I rx ry h
  obtain ⟨a, b, ks, rfl, rfl, ea, eb, q⟩ := h
  obtain rfl : v = Value.ref a := rx
  obtain rfl : u = Value.ref b := ry
  obtain ⟨_, ya, va, ra, da⟩ := (show ObjOk X.prog X.w H s.heap a (.dK ks) from I.hok a _ ea)
  obtain ⟨_, yb, vb, rb, db⟩ := (show ObjOk X.prog X.w H s.heap b (.dK []) from I.hok b _ eb)
  have hb : vb.length = 0 := by rw [← rb.length]; rfl
  have ha : va.length = ks.length := ra.length.symm
  refine PySem.W.keq_ne (knd := mixKind X.prog X.w) (r := true) ya yb da db hu (fun hl => ?_) (fin_bl I q ?_)
  · have : ks = [] := List.eq_nil_of_length_eq_zero (by omega)
    subst this
    exact hits_all rb ra (fun p hp => nomatch hp)
  · cases ks with
    | nil => simp [ha, hb]
    | cons _ _ => simp [ha, hb]
theorem ok_neE {g : G} {E : XK} : OpOk g E rNeE neED := by
  intro H al s x y v w Q st rx ry p
  unfold neED at p
  cases x <;> first | exact p.elim | skip
  cases y <;> first | exact p.elim | skip
  rename_i n m
  cases rx with
  | ref hp =>
    cases ry with
    | ref hq =>
      cases e1 : s[n]? with
      | none => simp only [e1] at p; exact p.elim
      | some c1 =>
        cases e2 : s[m]? with
        | none => simp only [e1, e2] at p; cases c1 <;> exact p.elim
        | some c2 =>
          simp only [e1, e2] at p
          cases c1 <;> first | exact p.elim | skip
          rename_i kvs
          cases c2 <;> first | exact p.elim | skip
          rename_i kv2
          cases kv2 with
          | cons _ _ => exact p.elim
          | nil =>
            obtain ⟨kv, h1, h2, _⟩ := st.cell n _ _ hp e1
            obtain ⟨kv', h3, h4, _⟩ := st.cell m _ _ hq e2
            have : kv' = [] := List.map_eq_nil_iff.mp h4
            subst this
            refine ⟨_, _, kv, rfl, rfl, h1, h3, ?_⟩
            have hl : kv.isEmpty = kvs.isEmpty := by
              have := congrArg List.length h2
              rw [List.length_map, List.length_map] at this
              cases kv <;> cases kvs <;> first | rfl | (simp at this)
            rw [hl]
            exact p.now st (.bl _)
section
variable {W : Wd} {c : Ct} {E : XK} {X : Cx} {F : List Addr} {pos : Pos} {a e : Expr} {ma mb : MD D}
theorem Bx.neE (b : Bx W c E X) (hm : behindInMarks .NotEq e = false) (ha : PE X a (TX (W.g.wF F) E ma)) (hb : PE X e (TX (W.g.wF F) E mb)) : PE X (.Compare a [.NotEq] [e] pos) (TX (W.g.wF F) E (mBin neED ma mb)) :=
  me_cmp (op_neE (Nat.lt_of_le_of_lt (Nat.le_add_right _ _) b.hu)) hm ok_neE ha hb
theorem Bx.tneE (b : Bx W c E X) (hm : behindInMarks .NotEq e = false) (ha : PE X a (TX (W.g.wF F) E ma)) (hb : PE X e (TX (W.g.wF F) E mb)) : PT X (.Compare a [.NotEq] [e] pos) (TXb (W.g.wF F) E (mTest (mBin neED ma mb))) :=
  mt_cmp (op_neE (Nat.lt_of_le_of_lt (Nat.le_add_right _ _) b.hu)) hm ok_neE ha hb
end
end Mx
namespace Mx
open PySem L2 RZ RT
section
variable {W : Wd} {c : Ct} {E : XK} {X : Cx} {F : List Addr} {x y : Str} {i n j k : Nat} {pos p p2 pos2 tpos : Pos} {e a d tg : Expr} {es : List Expr} {ma mb m : MD D} {exA : Nat → Option Bool} {kk : Nat}
def revRS (n : Nat) : Src := ⟨(List.range n).map fun (i : Nat) => .int (((n : Int) - 1) - (i : Int)), fun _ => true⟩
def kRevR (x : D) (s : Sto) : Rs Src := match x with
  | .int n => if n.natAbs ≤ 1000000000 then .ok (revRS n.toNat) s else .bad
  | _ => .bad
def mRevR (m : MD D) : MD Src := fun ρ s => (m ρ s).bind kRevR
theorem Bx.revR (b : Bx W c E X) (z : BltW W "reversed") (z2 : BltW W "range") (hg : glB c "reversed" = true) (hg2 : glB c "range" = true) (ha : PE X a (TX (W.g.wF F) E ma)) (hp : plainE a = true) :
    PI X tg (.Call (.Name "reversed" p) [.Call (.Name "range" p2) [a] [] pos2] [] pos) (TIx (W.g.wF F) E (mRevR ma)) :=
  pi_mono (pi_revR (b.glo hg).1 (by rw [b.mg]; exact z.no) (prg_1 (b.glo hg2).1 (by rw [b.mg]; exact z2.no) ha (star_cons hp))) fun σ H R ⟨ρ, al, s, er, st, q⟩ =>
    ⟨ρ, al, s, er, st, Post.bind q fun x s1 v H1 al1 _ t st1 rp q1 => by
      unfold kRevR at q1
      cases x with
      | int n =>
        cases rp.int_inv
        by_cases h : n.natAbs ≤ 1000000000
        · simp only [if_pos h] at q1
          refine ⟨n, rfl, by omega, by omega, by omega, by omega, ?_⟩
          have hn : (n - 0).toNat = n.toNat := by rw [Int.sub_zero]
          rw [hn]
          have e0 : (0 : Int) + ((n.toNat : Nat) : Int) - 1 = ((n.toNat : Nat) : Int) - 1 := by omega
          rw [e0]
          refine q1 _ _ _ .refl st1 ?_
          have es : revRS n.toNat = rngS (((n.toNat : Nat) : Int) - 1) (-1) n.toNat := by
            unfold revRS rngS
            congr 1
            exact List.map_congr_left fun i _ => by congr 1; omega
          rw [es]
          exact good_range
        · simp only [if_neg h] at q1; exact q1.elim
      | _ => exact q1.elim⟩
/-- the classes of a tuple, by their names -/
structure IsXT (W : Wd) (ys : List Str) (exA : Nat → Option Bool) : Prop where
  ex : ∃ us : List Addr, us.length = ys.length ∧ (∀ (i : Nat) (y : Str) (u : Addr), ys[i]? = some y → us[i]? = some u → W.mg y = some (.ref u)) ∧ ∀ q b, exA q = some b → ExcC W.g.K (W.g.ca q) ∧ PySem.W.kitAny W.g.K (.ref (W.g.ca q)) (us.map Value.ref) = some b
def isxT (exA : Nat → Option Bool) (x : D) (s : Sto) : Rs D := match x with
  | .exv q _ => optD (exA q) fun b => .ok (.bl b) s
  | _ => .bad
def mIsxT (exA : Nat → Option Bool) (a : MD D) : MD D := fun ρ s => (a ρ s).bind (isxT exA)
theorem clsVs : ∀ us : List Addr, Paired ClsV (us.map V.ref) (us.map Value.ref)
  | [] => .nil
  | u :: us => .cons (.own u) (clsVs us)
def tRefs (us : List Addr) : TA := fun _ H Q => Q (us.map V.ref) H
theorem names_pa (b : Qx W c X) : ∀ (es : List Expr) (ys : List Str) (us : List Addr), us.length = ys.length → (∀ (i : Nat) (y : Str) (u : Addr), ys[i]? = some y → us[i]? = some u → W.mg y = some (.ref u)) → (∃ ps : List Pos, ps.length = ys.length ∧ es = List.zipWith (fun y p => Expr.Name y p) ys ps) → (ys.all fun y => glB c y) = true → PA X es (tRefs us)
  | _, [], [], _, _, ⟨[], _, rfl⟩, _ => ⟨fun pos pins s σ H Q I h => pa_nil.run pos pins s σ H Q I h⟩
  | _, y :: ys, u :: us, hl, hm, ⟨q :: ps, hp, rfl⟩, hg => by
    rw [List.all_cons, Bool.and_eq_true] at hg
    have h1 : PE X (.Name y q) (tC (.ref u)) := by
      obtain ⟨g1, g2, _⟩ := b.glo hg.1
      exact pe_glob g1 (by rw [b.mg]; exact hm 0 y u rfl rfl) rfl g2
    have h2 := names_pa b (List.zipWith (fun y p => Expr.Name y p) ys ps) ys us (by simpa using hl) (fun i y u e1 e2 => hm (i + 1) y u (by simpa using e1) (by simpa using e2)) ⟨ps, by simpa using hp, rfl⟩ hg.2
    have h3 := pa_cons h1 h2 (star_cons (e := .Name y q) (es := List.zipWith (fun y p => Expr.Name y p) ys ps) rfl)
    exact ⟨fun pos pins s σ H Q I h => h3.run pos pins s σ H Q I h⟩
  | _, [], _ :: _, h, _, _, _ => by cases h
  | _, _ :: _, [], h, _, _, _ => by cases h
  | _, _ :: _, _ :: _, _, _, ⟨[], h, _⟩, _ => by cases h
  | _, [], [], _, _, ⟨_ :: _, h, _⟩, _ => by cases h
theorem Qx.isxT (b : Qx W c X) (ys : List Str) (ps : List Pos) (h : IsXT W ys exA) (h0 : BltW W "isinstance") (hg : glB c "isinstance" = true) (hl : ps.length = ys.length) (hy : (ys.all fun y => glB c y) = true) (h8 : ys.length ≤ 100) (he : PE X e (TX (W.g.wF F) E ma)) (hp : plainE e = true) :
    PE X (.Call (.Name "isinstance" p) [e, .Tuple (List.zipWith (fun y p => Expr.Name y p) ys ps) kk tpos] [] pos) (TX (W.g.wF F) E (mIsxT exA ma)) := by
  obtain ⟨us, hu, hm, hX⟩ := h.ex
  obtain ⟨g1, g2, g3⟩ := b.glo hg
  have hT := pe_tup (x1 := kk) (pos := tpos) (names_pa b _ ys us hu hm ⟨ps, hl, rfl⟩ hy)
  refine pe_mono (pe_callB call_isVT g1 (by rw [b.mg]; exact h0.no) (by decide +kernel) (pa_cons he (pa_cons hT pa_nil rfl) (star_cons hp)) (by decide) (by decide) (star_cons hp) (star_any rfl)) fun σ H Q ⟨ρ, al, s, er, st, q⟩ => ?_
  refine ⟨ρ, al, s, er, st, Post.bind q fun dd s1 v H1 al1 hd t st1 rp q1 => ?_⟩
  clear hd
  cases dd with
  | exv qq ds =>
    obtain ⟨k, e1, q2⟩ := optD_inv (β := Nat) (γ := Nat) (show Post (W.g.wF F) E (Rep (W.g.wF F)) (optD (exA qq) fun b => .ok (.bl b) s1) H1 al1 Q from q1)
    obtain ⟨h1, h2⟩ := hX qq k e1
    obtain ⟨a', d', rfl, e3, e4, _⟩ := rp.exv_inv
    have hz : (us.map V.ref).length ≤ sizeLine := by rw [List.length_map, hu, sizeLine_eq]; omega
    refine ⟨hz, fun tp np => ?_⟩
    have t2 : Tr (W.g.wF F) al1 H1 al1 (upd H1 tp (.tup (us.map V.ref))) := .same (upd_new np)
    exact ⟨a', _, tp, d', us.map V.ref, us.map Value.ref, k, rfl, upd_same, clsVs us, upd_new np _ _ e3, (fun dx z => let ⟨vs, z1, _⟩ := e4 dx z; ⟨_, upd_new np _ _ z1⟩), by rw [b.K]; exact h1, by rw [b.K]; exact h2, q2 _ _ _ t2 (st1.same (upd_new np)) (.bl _)⟩
  | _ => exact q1.elim
def kLstD (k : Bool) (x : D) (s : Sto) : Rs D := match x with
  | .ref n => match s[n]? with
    | some (.dT kvs) => newL k (kvs.map fun kv => tD kv.1) s
    | _ => .bad
  | _ => .bad
def mLstD (k : Bool) (m : MD D) : MD D := fun ρ s => (m ρ s).bind (kLstD k)
theorem keys_reps {g : G} {H : Hp} {al : List Addr} {s : Sto} (st : StOk g H al s) : ∀ {kv : List (List Key × V)} {bs : List Addr}, IsKeys H kv bs → Reps g H al (bs.map V.ref) ((kv.map (·.1)).map tD)
  | _, _, .nil => .nil
  | _, _, .cons h t => .cons (.tupH h (st.no_tupK h) kDs_rep) (keys_reps st t)
theorem Bx.listD (b : Bx W c E X) (k : Bool) (z : BltW W "list") (hg : glB c "list" = true) (ha : PE X a (TX (W.g.wF F) E ma)) (hp : plainE a = true) :
    PE X (.Call (.Name "list" p) [a] [] pos) (TX (W.g.wF F) E (mLstD k ma)) := by
  obtain ⟨g1, g2, g3⟩ := b.glo hg
  refine pe_mono (pe_callTy (call_list_dT b.calm) g1 (by rw [b.mg]; exact z.no) (by decide +kernel) (pa_cons ha pa_nil (star_cons hp)) g3 g2 (star_cons hp) (star_any rfl)) fun σ H Q ⟨ρ, al, s, er, st, q⟩ => ?_
  refine ⟨ρ, al, s, er, st, Post.bind q fun x s1 v H1 al1 hx t st1 rp q1 => ?_⟩
  clear hx
  unfold kLstD at q1
  cases x <;> first | exact q1.elim | skip
  rename_i n
  cases rp with
  | ref hq =>
    cases e1 : s1[n]? with
    | none => simp only [e1] at q1; exact q1.elim
    | some cc =>
      simp only [e1] at q1
      cases cc with
      | dT kvs =>
        obtain ⟨kv, h1, h2, _⟩ := st1.cell n _ _ hq e1
        refine ⟨_, kv, rfl, .inl h1, fun pp bs np hk => ?_⟩
        have rr := keys_reps st1 hk
        rw [h2, List.map_map] at rr
        exact post_newL st1 rr q1 pp np
      | _ => exact q1.elim
end
section
open He
theorem kia_ok {K : PySem.W.Frag} {x : Str} {ys : List Str} {b : Bool} (c : (Fq.kia x ys b).ok K = true) : PySem.W.kitAny K (.ref (ga K x)) ((ys.map (ga K)).map Value.ref) = some b := by
  have h : PySem.W.kitAny K (.ref (ga K x)) (ys.map fun y => .ref (ga K y)) = some b := of_decide_eq_true c
  rw [List.map_map]
  exact h
end
def countD : D → List D → Sto → Rs D
  | x, [y], s => match asL x s with
    | some ds => match toPy s 59 y, allSome (ds.map (toPy s 58)) with
      | some a, some bs => .ok (.int (bs.countP fun z => PyData.eqv z a : Nat)) s
      | _, _ => .bad
    | none => .bad
  | _, _, _ => .bad
def rCntD (K : PySem.W.Frag) : V → List V → Hp → VK → Prop := fun x xs H Q => ∃ (u : V) (d : PyData) (ds : List PyData), xs = [u] ∧ Dp K H x (.list ds) ∧ Dp K H u d ∧ d.plain = true ∧ PyData.plainAll ds = true ∧ d.depth ≤ 59 ∧ Q (.int (ds.countP fun z => PyData.eqv z d : Nat)) H
theorem mt_countD {X : Cx} (hu : X.A.units + 64 < cLine) : MtR X "list.count" (rCntD X.K) := by
  intro pins s σ H x xs v us Q I rx rxs ⟨u, d, ds, e0, hx, hd, pd, pl, dep, q⟩
  subst e0
  obtain ⟨y, rfl, ry⟩ := rxs.one
  obtain ⟨_, r1⟩ := Dp.reads I _ _ _ hx rx
  obtain ⟨_, r2⟩ := Dp.reads I _ _ _ hd ry
  cases r1 with
  | list g1 g2 g3 g4 =>
    exact SeqAt.count_list_data ⟨_, g1, g2, _, g3⟩ g4 r2 pl pd (by omega) ⟨.int (ds.countP fun z => PyData.eqv z d : Nat), H, I.tok _, ⟨s.toks, rfl⟩, q⟩
theorem ok_countD {g : G} {E : XK} : MtRok g E (rCntD g.K) countD := by
  intro H al s x v ds vs Q st rx rs p
  unfold countD at p
  split at p
  · rename_i y
    obtain ⟨u, rfl, ry⟩ := rs.one
    cases e0 : asL x s with
    | none => simp only [e0] at p; exact p.elim
    | some es =>
      cases e1 : toPy s 59 y with
      | none => simp only [e0, e1] at p; exact p.elim
      | some a =>
        cases e2 : allSome (es.map (toPy s 58)) with
        | none => simp only [e0, e1, e2] at p; exact p.elim
        | some bs =>
          simp only [e0, e1, e2] at p
          obtain ⟨pa, ws, rfl, sq, rr⟩ := asL_ok st rx e0
          obtain ⟨a1, a2, a3⟩ := dp_of st 59 y u a e1 ry
          obtain ⟨b1, b2, _⟩ := dpAll_of (dp_of st 58) es _ bs e2 rr
          exact ⟨u, a, bs, rfl, .lst sq b1, a1, a2, b2, a3, p _ _ _ .refl st (.int _)⟩
  · exact p.elim
theorem Bx.cnt {o e : Expr} {es : List Expr} {apos pos : Pos} {mo : MD D} {ms : MD (List D)} {j : Nat} (b : Bx W c E X) (ho : PE X o (TX (W.g.wF F) E mo)) (hb : baseOk o = true) (ha : AR X (e :: es) (W.g.wF F) E j ms) (h28 : (e :: es).length < 29) (hline : (apos.endLine == pos.line) = true) :
    PE X (.Call (.Attribute o "count" apos) (e :: es) [] pos) (TX (W.g.wF F) E (mBM .list countD mo ms)) :=
  me_bm (T := .list) b.gK PySem.F.plainAttrs_list PySem.F.slot_list_count PySem.F.type_list_count (mt_countD b.hu) (by rw [← b.gK]; exact ok_countD) ho hb ha.pa ha.pl h28 hline
end Mx
namespace Mx
open PySem PySem.Spec PyProof.Rows L2 RZ RT
/-- one side of a zip -/
inductive Zs where
  | lst (a : Addr) | tup (a : Addr) | txt (x : Str)
namespace Zs
def val : Zs → V
  | .lst a => .ref a
  | .tup a => .ref a
  | .txt x => .str x
def signs (x : Str) : List V := x.cps.toList.map fun c => V.str ⟨#[c]⟩
def here (K : PySem.W.Frag) : Zs → Hp → List V → Prop
  | .lst a, H, vs => SqL K H a vs
  | .tup a, H, vs => SqT K H a vs
  | .txt x, _, vs => vs = signs x
/-- its iterator j at the place n -/
def itr : Zs → Addr → Nat → Heap → Prop
  | .lst a, j, n, h => h.IsListIter j a n
  | .tup a, j, n, h => h.IsTupleIter j a n
  | .txt x, j, n, h => ∃ t, h.IsStrIter j (strIterType x) x t n
def cells : Zs → Addr → List Addr
  | .lst a, j => [j, a]
  | .tup a, j => [j, a]
  | .txt _, j => [j]
theorem cells_mem (z : Zs) (j : Addr) : j ∈ z.cells j := by cases z <;> simp [cells]
theorem itr_get {z : Zs} {j : Addr} {n : Nat} {h : Heap} (q : z.itr j n h) : ∃ o, h.get? j = some o ∧ ∀ v, o.data ≠ .cell v := by
  cases z with
  | lst a => obtain ⟨o, e, _, d⟩ := q; exact ⟨o, e, fun v y => by rw [d] at y; cases y⟩
  | tup a => obtain ⟨o, e, _, d⟩ := q; exact ⟨o, e, fun v y => by rw [d] at y; cases y⟩
  | txt x => obtain ⟨_, o, e, _, d⟩ := q; exact ⟨o, e, fun v y => by rw [d] at y; cases y⟩
theorem itr_stay {z : Zs} {j : Addr} {n : Nat} {h h' : Heap} (q : z.itr j n h) (k : ∀ o, h.get? j = some o → h'.get? j = some o) : z.itr j n h' := by
  cases z with
  | lst a => obtain ⟨o, e, r⟩ := q; exact ⟨o, k o e, r⟩
  | tup a => obtain ⟨o, e, r⟩ := q; exact ⟨o, k o e, r⟩
  | txt x => obtain ⟨t, o, e, r⟩ := q; exact ⟨t, o, k o e, r⟩
section
variable {X : Cx} {pins : List (Addr × Obj)} {σ : L2.St}
  {H : Hp} {s : Shared}
theorem here_inj {z : Zs} {vs us : List V} (I : Inv X pins σ H s) (q : z.here X.K H vs) (q2 : z.here X.K H us) : vs = us := by
  cases z with
  | lst a => exact I.list_inj q q2
  | tup a => exact I.tuple_inj q q2
  | txt x => exact (show vs = signs x from q).trans (show us = signs x from q2).symm
theorem lt_of {z : Zs} {vs : List V} (I : Inv X pins σ H s) (q : z.here X.K H vs) {j b : Addr} (hb : b ∈ z.cells j) : b = j ∨ b < s.heap.objs.size := by
  cases z with
  | lst a =>
    simp only [cells, List.mem_cons, List.not_mem_nil, or_false] at hb
    refine hb.imp_right fun e => ?_
    · rw [e]
      obtain ⟨ws, _, p, _⟩ := I.list q
      exact p.lt
  | tup a =>
    simp only [cells, List.mem_cons, List.not_mem_nil, or_false] at hb
    refine hb.imp_right fun e => ?_
    · rw [e]
      obtain ⟨ws, _, p, _⟩ := I.tuple q
      obtain ⟨o, e1, _⟩ := id p
      exact Heap.lt_size e1
  | txt x => exact .inl (List.mem_singleton.mp hb)
/-- what its iterator draws, as it stands now -/
theorem draws {z : Zs} {vs : List V} (hc : X.calm = true) (I : Inv X pins σ H s) (q : z.here X.K H vs) {j : Addr} {n : Nat} (st : z.itr j n s.heap) (hne : ∀ a, z = .lst a ∨ z = .tup a → a ≠ j) :
    ∃ (m : Nat) (P : Nat → Value → Prop) (St : Nat → Heap → Prop), m = vs.length ∧ Draws X.prog X.w X.A.in1 j (z.cells j) m P St ∧ St n s.heap ∧ (∀ i h, St i h → z.itr j i h) ∧ ∀ i u v, P i u → vs[i]? = some v → RelV v u := by
  have hh : X.A.in1.handled = none := I.ok.hd hc
  cases z with
  | lst a =>
    obtain ⟨ws, rv, p, _⟩ := I.list q
    refine ⟨ws.toArray.size, _, _, by rw [List.size_toArray, rv.length], Draws.list hh j a (hne a (.inl rfl)) ws.toArray, ⟨st, p.isList⟩, fun i h y => y.1, fun i u v e e2 => ?_⟩
    obtain ⟨u2, e3, r⟩ := rv.get e2
    rw [List.getElem?_toArray, e3] at e
    cases e
    exact r
  | tup a =>
    obtain ⟨ws, rv, p, _⟩ := I.tuple q
    refine ⟨ws.toArray.size, _, _, by rw [List.size_toArray, rv.length], Draws.tuple hh j a (hne a (.inr rfl)) ws.toArray, ⟨st, p⟩, fun i h y => y.1, fun i u v e e2 => ?_⟩
    obtain ⟨u2, e3, r⟩ := rv.get e2
    rw [List.getElem?_toArray, e3] at e
    cases e
    exact r
  | txt x =>
    obtain ⟨t, st⟩ := st
    refine ⟨x.cps.size, _, _, ?_, Draws.text hh j x t, st, fun i h y => ⟨t, y⟩, fun i u v e e2 => ?_⟩
    · rw [show vs = signs x from q]; simp [signs]
    · obtain ⟨c, k, e3, rfl⟩ := e
      rw [show vs = signs x from q] at e2
      unfold signs at e2
      rw [List.getElem?_map, Array.getElem?_toList, e3] at e2
      cases e2
      exact ⟨k, rfl⟩
/-- how its iterator is made -/
theorem made {z : Zs} {vs : List V} {u : Value} (I : Inv X pins σ H s) (q : z.here X.K H vs) (r : RelV z.val u) : ∃ (o : Obj) (Hh : Heap → Prop), Begins u o Hh ∧ Hh s.heap ∧ ∀ j h, h.get? j = some o → z.itr j 0 h := by
  cases z with
  | lst a =>
    cases r
    obtain ⟨ws, rv, p, _⟩ := I.list q
    exact ⟨_, _, begins_list a ws.toArray, p.isList, fun j h e => ⟨_, e, rfl, rfl⟩⟩
  | tup a =>
    cases r
    obtain ⟨ws, rv, p, _⟩ := I.tuple q
    exact ⟨_, _, begins_tuple a ws.toArray, p, fun j h e => ⟨_, e, rfl, rfl⟩⟩
  | txt x =>
    obtain ⟨t, rfl⟩ := r
    exact ⟨_, _, begins_text x t, trivial, fun j h e => ⟨t, _, e, rfl, rfl⟩⟩
end
end Zs
/-- the pairs of two sides -/
def ItG (K : PySem.W.Frag) (p q : Zs) : It where
  go i H := ∃ vs us v u, p.here K H vs ∧ q.here K H us ∧ vs[i]? = some v ∧ us[i]? = some u
  yld i H z H' := ∃ T v u, z = .ref T ∧ H T = none ∧ H' = upd H T (.tup [v, u]) ∧ (∀ vs, p.here K H vs → vs[i]? = some v) ∧ ∀ us, q.here K H us → us[i]? = some u
  stop i H := ∃ vs us, p.here K H vs ∧ q.here K H us ∧ i = min vs.length us.length
/-- its five new cells lie apart -/
structure Ap5 (p q : Zs) (z TI TO j k : Addr) : Prop where
  sep : ZipSep2 z TI TO j k (p.cells j) (q.cells k)
  n1 : ∀ a, p = .lst a ∨ p = .tup a → a ≠ j
  n2 : ∀ a, q = .lst a ∨ q = .tup a → a ≠ k
def StG (p q : Zs) (z TI TO j k : Addr) (i : Nat) (h : Heap) : Prop := IsZip h z TI TO .none ∧ IsTupOf2 h TI (.ref j) (.ref k) ∧ (∃ a b, IsTupOf2 h TO a b) ∧ p.itr j i h ∧ q.itr k i h
theorem turnG {P : Program} {w : World} {K : PySem.W.Frag} {elts : List Expr} {kk : Nat} {tpos : Pos} {p q : Zs} {z TI TO j k : Addr} (A5 : Ap5 p q z TI TO j k) :
    Turn P w K (.Tuple elts kk tpos) (ItG K p q) [z, TI, TO, j, k] z (StG p q z TI TO j k) where
  mem := List.mem_cons_self
  obj := fun i h ⟨a1, a2, ⟨x, y, a3⟩, a4, a5⟩ c hc => by
    simp only [List.mem_cons, List.not_mem_nil, or_false] at hc
    obtain ⟨o4, e4, d4⟩ := Zs.itr_get a4
    obtain ⟨o5, e5, d5⟩ := Zs.itr_get a5
    rcases hc with rfl | rfl | rfl | rfl | rfl
    · exact ⟨_, a1, nofun⟩
    · exact ⟨_, a2, nofun⟩
    · exact ⟨_, a3, nofun⟩
    · exact ⟨o4, e4, d4⟩
    · exact ⟨o5, e5, d5⟩
  keep := fun i h h' ⟨a1, a2, ⟨x, y, a3⟩, a4, a5⟩ kp =>
    ⟨kp _ (by simp) _ a1, kp _ (by simp) _ a2, ⟨x, y, kp _ (by simp) _ a3⟩, Zs.itr_stay a4 fun o e => kp _ (by simp) o e, Zs.itr_stay a5 fun o e => kp _ (by simp) o e⟩
  item := fun X e1 e2 e3 hc i pins s σ H E I hf ⟨a1, a2, ⟨x0, y0, a3⟩, a4, a5⟩ hg => by
    cases e1; cases e2; cases e3
    obtain ⟨vs, us, v, u, h1, h2, g1, g2⟩ := hg
    obtain ⟨m1, P1, St1, rfl, D1, b1, c1, r1⟩ := Zs.draws hc I h1 a4 A5.n1
    obtain ⟨m2, P2, St2, rfl, D2, b2, c2, r2⟩ := Zs.draws hc I h2 a5 A5.n2
    have lz : z < s.heap.objs.size := Heap.lt_size a1
    have lo : ∀ c, c ∈ [z, TI, TO, j, k] → c < s.heap.objs.size := fun c hcm => by
      simp only [List.mem_cons, List.not_mem_nil, or_false] at hcm
      obtain ⟨o4, e4, _⟩ := Zs.itr_get a4
      obtain ⟨o5, e5, _⟩ := Zs.itr_get a5
      rcases hcm with rfl | rfl | rfl | rfl | rfl
      · exact lz
      · exact Heap.lt_size a2
      · exact Heap.lt_size a3
      · exact Heap.lt_size e4
      · exact Heap.lt_size e5
    refine wpAny_pyNext_zipD2_item A5.sep D1 D2 a1 a2 a3 b1 b2 (List.getElem?_eq_some_iff.mp g1).1 (List.getElem?_eq_some_iff.mp g2).1 fun x y h' tk px py k1 k2 k3 k4 k5 _ old => ⟨_, rfl, ?_⟩
    refine wpAny_letOwnedTupleGo_zip (s := { s with heap := h', toks := tk }) k1 fun h2' k6 sb => ?_
    have k7 : h2'.get? s.heap.objs.size = some { cls := .type "tuple", data := .seq #[x, y] } := by
      rw [sb.2 _ fun e => absurd lz (by rw [← e]; exact Nat.lt_irrefl _)]
      exact k5
    have new : ObjOk X.prog X.w (upd H s.heap.objs.size (.tup [v, u])) h2' s.heap.objs.size (.tup [v, u]) :=
      ⟨(by decide : 2 ≤ sizeLine), _, .cons (r1 i x v px g1) (.cons (r2 i y u py g2) .nil), _, k7, rfl, _, rfl⟩
    have still : ∀ c o, c ∉ [z, TI, TO, j, k] → s.heap.get? c = some o → h2'.get? c = some o := fun c o hn e => by
      simp only [List.mem_cons, List.not_mem_nil, or_false, not_or] at hn
      rw [sb.2 c hn.1]
      exact old c o hn.1 hn.2.2.1 hn.2.2.2.1 hn.2.2.2.2 e
    have I2 := I.turnedNew (t' := tk) still hf (Nat.le_refl _) new
    have kTI : h2'.get? TI = some { cls := .type "tuple", data := .seq #[.ref j, .ref k] } := by
      rw [sb.2 TI A5.sep.TIz]
      exact old TI _ A5.sep.TIz A5.sep.TITO A5.sep.TIi1 A5.sep.TIi2 a2
    refine ⟨.ref s.heap.objs.size, _, I2, rfl, ⟨_, v, u, rfl, I.hok.fresh (Nat.le_refl _), rfl, fun vs' q' => by rw [Zs.here_inj I q' h1]; exact g1, fun us' q' => by rw [Zs.here_inj I q' h2]; exact g2⟩, ⟨k6, kTI, ⟨x, y, ?_⟩, ?_, ?_⟩, fun c hcm => ?_⟩
    · show h2'.get? TO = _
      rw [sb.2 TO A5.sep.TOz]; exact k2
    · exact Zs.itr_stay (c1 _ _ k3) fun o e => by rw [sb.2 j fun e => A5.sep.zi1 e.symm]; exact e
    · exact Zs.itr_stay (c2 _ _ k4) fun o e => by rw [sb.2 k fun e => A5.sep.zi2 e.symm]; exact e
    · rw [upd_ne (Nat.ne_of_lt (lo c hcm))]
      exact (hf c hcm).1
  done := fun X e1 e2 e3 hc i pins s σ H E I hf ⟨a1, a2, ⟨x0, y0, a3⟩, a4, a5⟩ hg => by
    cases e1; cases e2; cases e3
    obtain ⟨vs, us, h1, h2, rfl⟩ := hg
    obtain ⟨m1, P1, St1, rfl, D1, b1, c1, r1⟩ := Zs.draws hc I h1 a4 A5.n1
    obtain ⟨m2, P2, St2, rfl, D2, b2, c2, r2⟩ := Zs.draws hc I h2 a5 A5.n2
    refine wpAny_pyNext_zipD2_end A5.sep D1 D2 a1 a2 a3 b1 b2 (Nat.min_le_left _ _) (Nat.min_le_right _ _) (by omega) fun h' tk old => ⟨rfl, ?_⟩
    refine I.turnedL (t' := tk) (ch := [z, TI, TO, j, k]) (fun c o hn e => ?_) hf
    simp only [List.mem_cons, List.not_mem_nil, or_false, not_or] at hn
    exact old c o hn.1 hn.2.2.1 hn.2.2.2.1 hn.2.2.2.2 e
  self := fun _ _ _ _ _ st h => wpAny_pyIter_zip st.1 h
def iZipG (K : PySem.W.Frag) (ta : TA) : TI := fun σ H R => ta σ H fun zs H1 => ∃ (p q : Zs) (vs us : List V), zs = [p.val, q.val] ∧ p.here K H1 vs ∧ q.here K H1 us ∧ R (ItG K p q) H1
theorem pi_zipG {X : Cx} {e e2 : Expr} {ta : TA} {p pos tpos : Pos} {elts : List Expr} {kk : Nat} (hg : Gl X "zip") (hm : X.mg "zip" = none) (ha : PA X [e, e2] ta)
    (hs : starEach [e, e2] X.env = (false, eval e X.env) :: starEach [e2] X.env) (hpl : (backTo pos (starEach [e2] X.env)).any (·.1) = false) :
    PI X (.Tuple elts kk tpos) (.Call (.Name "zip" p) [e, e2] [] pos) (iZipG X.K ta) where
  run pins s σ H R I h := by
    refine Call_ (ld_blt I hg hm boot_zip ?_)
    refine callWith_type1 (thn (ha.run pos pins s σ H _ I h) fun as s1 hq => ?_) hs hpl
    obtain ⟨zs, H1, I1, rr, a, b, vs, us, rfl, h1, h2, fin⟩ := hq
    obtain ⟨u1, u2, rfl, w1, w2⟩ : ∃ u1 u2, as = [u1, u2] ∧ RelV a.val u1 ∧ RelV b.val u2 := by
      cases rr with
      | cons w1 rr => cases rr with
        | cons w2 rr => cases rr; exact ⟨_, _, rfl, w1, w2⟩
    obtain ⟨o1, G1, B1, g1, m1⟩ := Zs.made I1 h1 w1
    obtain ⟨o2, G2, B2, g2, m2⟩ := Zs.made I1 h2 w2
    refine zip_begins2 B1 B2 g1 g2 fun h' y1 y2 y3 y4 y5 _ old => wpAny_pyIter_zip y1 ?_
    obtain ⟨N, hN⟩ : ∃ N : Nat, N = s1.heap.objs.size := ⟨_, rfl⟩
    have l1 : ∀ c : Nat, c ∈ a.cells N → c = N ∨ c < N := fun c hc => by rw [hN] at hc ⊢; exact Zs.lt_of I1 h1 hc
    have l2 : ∀ c : Nat, c ∈ b.cells (N + 1) → c = N + 1 ∨ c < N := fun c hc => by rw [hN] at hc ⊢; exact Zs.lt_of I1 h2 hc
    rw [← hN] at y1 y2 y3 y4 y5 ⊢
    have A5 : Ap5 a b (N + 4) (N + 2) (N + 3) N (N + 1) := {
      sep := {
        TIz := (by omega : N + 2 ≠ N + 4), TOz := (by omega : N + 3 ≠ N + 4), TITO := (by omega : N + 2 ≠ N + 3), TIi1 := (by omega : N + 2 ≠ N), mem1 := a.cells_mem _
        zf1 := fun e => by
          have q : _ := l1 (N + 4) e
          omega
        Tf1 := fun e => by
          have q : _ := l1 (N + 3) e
          omega
        TIi2 := (by omega : N + 2 ≠ N + 1), mem2 := b.cells_mem _
        zf2 := fun e => by
          have q : _ := l2 (N + 4) e
          omega
        Tf2 := fun e => by
          have q : _ := l2 (N + 3) e
          omega
        sep1_2 := fun e => by
          have q : _ := l2 N e
          omega
        sep2_1 := fun e => by
          have q : _ := l1 (N + 1) e
          omega }
      n1 := fun c e => by
        have hc : c < s1.heap.objs.size := by
          rcases e with rfl | rfl
          · obtain ⟨ws, _, pl, _⟩ := I1.list h1
            exact pl.lt
          · obtain ⟨ws, _, pl, _⟩ := I1.tuple h1
            obtain ⟨o, eo, _⟩ := id pl
            exact Heap.lt_size eo
        exact fun z => absurd hc (by rw [z, hN]; exact Nat.lt_irrefl _)
      n2 := fun c e => by
        have hc : c < s1.heap.objs.size := by
          rcases e with rfl | rfl
          · obtain ⟨ws, _, pl, _⟩ := I1.list h2
            exact pl.lt
          · obtain ⟨ws, _, pl, _⟩ := I1.tuple h2
            obtain ⟨o, eo, _⟩ := id pl
            exact Heap.lt_size eo
        exact fun z => absurd hc (by rw [z, hN]; exact Nat.not_lt.mpr (Nat.le_succ _)) }
    refine ⟨N + 4, [N + 4, N + 2, N + 3, N, N + 1], _, _, H1, rfl, I1.kept (t' := s1.toks) old, turnG A5, ⟨y1, y2, ⟨_, _, y3⟩, m1 _ _ y4, m2 _ _ y5⟩, fun c hc => ?_, fin⟩
    have far : N ≤ c := by
      simp only [List.mem_cons, List.not_mem_nil, or_false] at hc
      rcases hc with rfl | rfl | rfl | rfl | rfl <;> first | exact Nat.le_refl _ | exact Nat.le_add_right _ _
    rw [hN] at far
    exact I1.fpOk far (I1.hok.fresh far)
section
variable {g : G} {E : XK} {H : Hp} {al : List Addr} {s : Sto} {X : Cx} {p pos : Pos}
def zOf : D → V → Zs
  | .tup _, .ref a => .tup a
  | .str x, _ => .txt x
  | _, .ref a => .lst a
  | _, _ => .txt ""
def signsD (x : Str) : List D := x.cps.toList.map fun c => D.str ⟨#[c]⟩
def sideD : D → Sto → Option (List D)
  | .tup ds, _ => some ds
  | .str x, _ => some (signsD x)
  | x, s => asL x s
theorem reps_signs : ∀ l : List Nat, Reps g H al (l.map fun c => V.str ⟨#[c]⟩) (l.map fun c => D.str ⟨#[c]⟩)
  | [] => .nil
  | _ :: l => .cons (.str _) (reps_signs l)
theorem side_ok {x : D} {v : V} {ds : List D} (st : StOk g H al s) (r : Rep g H al v x) (h : sideD x s = some ds) : v = (zOf x v).val ∧ ∃ vs, (zOf x v).here g.K H vs ∧ Reps g H al vs ds := by
  have list : asL x s = some ds → (∀ a, v = .ref a → zOf x v = .lst a) → v = (zOf x v).val ∧ ∃ vs, (zOf x v).here g.K H vs ∧ Reps g H al vs ds := fun h k => by
    obtain ⟨q, vs, rfl, sq, rs⟩ := asL_ok st r h
    rw [k q rfl]
    exact ⟨rfl, vs, sq, rs⟩
  cases x with
  | tup es =>
    cases h
    obtain ⟨q, vs, rfl, sq, rs⟩ := tup_ok r
    exact ⟨rfl, vs, sq, rs⟩
  | str y =>
    cases h
    cases r
    exact ⟨rfl, _, rfl, reps_signs _⟩
  | lst es => exact list h fun a e => by rw [e]; rfl
  | frz es => exact list h fun a e => by rw [e]; rfl
  | ref n => exact list h fun a e => by rw [e]; rfl
  | _ => cases h
theorem good_zipG {x y : D} {v u : V} {ds es : List D} (hK : g.K = X.K) (r : Rep g H al v x) (r' : Rep g H al u y) : Good g H al (ItG X.K (zOf x v) (zOf y u)) ⟨zipItems ds es, fun s => deqO (sideD x s) ds && deqO (sideD y s) es⟩ := by
  intro F H1 al1 s1 t tz st gd
  obtain ⟨g1, g2⟩ := Bool.and_eq_true_iff.mp gd
  obtain ⟨_, vs, h1, rs⟩ := side_ok st (t _ _ r) (deqO_ok g1)
  obtain ⟨_, us, h2, rs'⟩ := side_ok st (t _ _ r') (deqO_ok g2)
  rw [show (g.wF F).K = X.K from hK] at h1 h2
  have len : (zipItems ds es).length = min vs.length us.length := by rw [zip_len, rs.length, rs'.length]
  refine ⟨fun i hi => ?_, ⟨vs, us, h1, h2, len⟩, fun i z H' hi hy => ?_⟩
  · have hi' : i < min vs.length us.length := by rw [← len]; exact hi
    exact ⟨vs, us, vs[i]'(by omega), us[i]'(by omega), h1, h2, by simp, by simp⟩
  · obtain ⟨T, c, d, rfl, hn, rfl, e1, e2⟩ := hy
    obtain ⟨d1, q1, q2⟩ := rs.getV (e1 vs h1)
    obtain ⟨d2, q3, q4⟩ := rs'.getV (e2 us h2)
    obtain ⟨t1, st1, rp⟩ := pair_new st hn q2 q4
    exact ⟨t1, st1, _, zip_get q1 q3, rp⟩
def zipG (x y : D) (s : Sto) : Option Src := match sideD x s, sideD y s with
  | some ds, some es => some ⟨zipItems ds es, fun s => deqO (sideD x s) ds && deqO (sideD y s) es⟩
  | _, _ => none
def kZipG (ds : List D) (s : Sto) : Rs Src := match ds with
  | [x, y] => optS (zipG x y s) fun c => .ok c s
  | _ => .bad
def mZipG (ms : MD (List D)) : MD Src := fun ρ s => (ms ρ s).bind kZipG
theorem mi_zipG {e e2 : Expr} {elts : List Expr} {kk : Nat} {tpos : Pos} {ms : MD (List D)} (hK : g.K = X.K) (hg : Gl X "zip") (hm : X.mg "zip" = none) (ha : PA X [e, e2] (TXs g E ms)) (hp : [e, e2].all plainE = true) :
    PI X (.Tuple elts kk tpos) (.Call (.Name "zip" p) [e, e2] [] pos) (TIx g E (mZipG ms)) := by
  simp only [List.all_cons, Bool.and_eq_true] at hp
  refine pi_mono (pi_zipG hg hm ha (star_cons hp.1) (star_any (by simp [hp.2]))) fun σ H R ⟨ρ, al, s, er, st, q⟩ => ⟨ρ, al, s, er, st, Post.bind q fun ds s1 vs H1 al1 hd t st1 rs q1 => ?_⟩
  unfold kZipG at q1
  split at q1
  · rename_i x y
    obtain ⟨v, u, rfl, rx, ry⟩ := rs.two
    obtain ⟨src, e0, q2⟩ := optS_inv q1
    unfold zipG at e0
    split at e0
    · rename_i ds es h1 h2
      cases e0
      obtain ⟨w1, vs, k1, _⟩ := side_ok st1 rx h1
      obtain ⟨w2, us, k2, _⟩ := side_ok st1 ry h2
      rw [hK] at k1 k2
      exact ⟨zOf x v, zOf y u, vs, us, by rw [← w1, ← w2], k1, k2, q2 _ _ _ .refl st1 (good_zipG hK rx ry)⟩
    · cases e0
  · exact q1.elim
end
theorem Bx.zipG {W : Wd} {c : Ct} {E : XK} {X : Cx} {F : List Addr} {k : Nat} {p pos tpos : Pos} {e d : Expr} {elts : List Expr} {ms : MD (List D)} (b : Bx W c E X) (h : BltW W "zip") (hg : glB c "zip" = true) (ha : AR X [e, d] (W.g.wF F) E 2 ms) :
    PI X (.Tuple elts k tpos) (.Call (.Name "zip" p) [e, d] [] pos) (TIx (W.g.wF F) E (mZipG ms)) := mi_zipG b.gK (b.glo hg).1 (by rw [b.mg]; exact h.no) ha.pa ha.pl
end Mx
namespace Mx
open PySem PySem.Spec PyProof.Rows L2 RZ RT
section
variable {X : Cx} {x : Str} {C fI : Addr} {k : Nat} {fd : FuncData} {ps : List Str} {sp : Sp} {ds : List Value} {dvs : List V} {CX : CXT} {p pos : Pos}
/-- no arguments -/
def tNone : TA := fun _ H Q => Q [] H
/-- the heap with its two new things -/
abbrev hpE (h : Heap) (C : Addr) : Heap := (h.push (PySem.W.kdv_tup [])).push (PySem.HandSPX.excO C h.objs.size)
theorem hpE_old {h : Heap} {C b : Addr} {o : Obj} (e : h.get? b = some o) : (hpE h C).get? b = some o := Heap.get?_push_of_some _ (Heap.get?_push_of_some _ e)
theorem hpE_new {h : Heap} {C : Addr} : (hpE h C).get? (h.objs.size + 1) = some (PySem.HandSPX.excO C h.objs.size) := by heap_get
theorem pmk_bare (TT : OexC X.K C) (hi : PySem.W.findIn X.K (.ref C) "__init__" = some (some (.ref fI))) (hf : PySem.W.typeIn X.K (.ref fI) = some (.type "function"))
    (fn : FnOk X.prog X.w X.K X.mg X.base CX k fI fd ps sp) (room : Room (k + 1) X.A) (bnd : Binds X.K fd ps ds) (dv : Vals dvs ds) (no : Passes CX X (fun _ _ _ => False)) (gl : Gl X x) (gm : X.mg x = some (.ref C)) (gd : (x == ("__debug__" : Str)) = false) :
    L2N.PMk X (.Call (.Name x p) [] [] pos) (tMkO C sp dvs tNone) := by
  rintro pins ⟨hp, gs, dr, tk, os⟩ σ H Q I ⟨_, spec⟩
  obtain ⟨_, _, _, _, cm, _, _, _, _, _, _, _, _, _, _, atC, cmV⟩ := TT.cls
  obtain ⟨N, eN⟩ : ∃ N : Addr, N = hp.objs.size + 1 := ⟨_, rfl⟩
  have le : hp.objs.size ≤ N := by rw [eN]; exact Nat.le_succ _
  have free : H N = none := I.hok.fresh le
  have want := spec N free
  -- the exception, tracked
  have IN : Inv X pins σ (upd H N (exo N C none)) ⟨hpE hp C, gs, dr, tk, os⟩ :=
    I.laid (t' := tk) (fun _ _ e => hpE_old e) le (exo_ok (by rw [eN]; exact hpE_new))
  have vals : Vals (.ref N :: ([] ++ dvs)) (.ref N :: ([] ++ ds)) := .cons rfl dv
  have cnt : (Value.ref N :: ds).length = ps.length := by
    rw [← fn.len _ _ _ _ want]
    exact vals.length.symm
  refine wpAny_Call_Name_kw (ld_glob I gl gm (PySem.W.callWith_K0 I.kIn TT.kC (wpAny_call ?_)) gd)
  refine PySem.HandSPX.call_own F.excBase_ValueError (PySem.HandSPX.refsVE_contains · cm cmV) (I.kIn _ _ atC) (PySem.W.looks_findIn I.kIn hi) (PySem.W.bind_fn I.kIn · hf) (Nat.zero_le _) ?_
  rw [← eN]
  have ran := fn.run _ X.stack _ _ ⟨[.ref N], []⟩ (.ref N :: ds) _ _ (fun _ _ _ => False) (room.make C [] []) (IN.env0.make C [] []) (bnd _ [.ref N] IN.kIn cnt) vals want
  refine codeAny_mono ran fun r st back => ?_
  match r, back with
  | .error er, back => exact no pins σ _ _ er st IN back
  | .ok (.ret u), back =>
    obtain ⟨v, H2, sameOs, bare, un, ok2, rv, ⟨isN, d, fs, atN, atd, dNew, fin⟩⟩ := back
    cases isN
    refine ⟨rv, ?_⟩
    obtain ⟨hp', gs', dr', tk', os'⟩ := st
    obtain ⟨t0, G, inG, kept, newG, there, gone⟩ := mk_end0 (d2 := dr') (t2 := tk') I le (fun _ _ e => hpE_old e) un ok2 sameOs bare atN atd dNew
    exact ⟨N, _, _, ⟨G, gs', dr', tk', os'⟩, _, .ref C, some d, rfl, inG, kept, newG, there, ⟨rfl, rfl, fun vs e => by cases e; rfl⟩, rfl, rfl, gone, rfl, bare, raises_own TT.exC TT.tyC, fin⟩
  | .ok .next, back => exact back.elim
  | .ok .brk, back => exact back.elim
  | .ok .cont, back => exact back.elim
end
section
variable {W : Wd} {c : Ct} {E : XK} {X : Cx} {F : List Addr} {x : Str} {p pos pos2 : Pos}
theorem Sx.raiseB {q : Nat} {fs : List Str} {dds : List D} (b : Sx W c E X) (h : RaiIW W x q fs dds) (hg : glB c x = true) (hn : dds.length = fs.length) :
    PS X (.Raise (some (.Call (.Name x p) [] [] pos)) none pos2) (TSx (W.g.wF F) E (sRaiseI q dds mNil)) := by
  obtain ⟨fI, fd, ps, dsv, dvs, T, iC, tI, F1, hb, hv, hr, hm, hno, hcf, h100⟩ := h.ex
  refine ps_mono (ps_raiseN b.calm b.tk (pmk_bare (by rw [b.K]; exact T) (by rw [b.K]; exact iC) (by rw [b.K]; exact tI) (by rw [b.prog, b.w, b.K, b.mg, b.base]; exact F1) b.room (by rw [b.K]; exact hb) hv (passes_no (P := W.P) (w := W.w)) (b.glo hg).1 (by rw [b.mg]; exact hm) (b.glo hg).2.1)) fun En σ H1 ⟨ρ, al1, s1, er, st1, q1⟩ => ?_
  have rr := hr F H1 al1
  have lvd : ([] ++ dvs : List V).length = fs.length := by rw [List.nil_append, rr.length]; exact hn
  refine ⟨Nat.zero_le _, fun a na => ?_⟩
  refine ⟨a, _, [] ++ dvs, rfl, lvd, T, hno, upd_same, fun dx H2 n e1 e2 e3 => ?_⟩
  have ndx : dx ≠ a := fun z => by rw [z, upd_same] at n; cases n
  have n1 : H1 dx = none := by rw [upd_ne ndx] at n; exact n
  refine ⟨rfl, dx, _, e1, e2, n1, ?_⟩
  have eH : upd (del H2 a) dx (.xd (fs.zip ([] ++ dvs)).reverse) = upd H1 dx (.xd (fs.zip ([] ++ dvs)).reverse) := by
    funext b'
    by_cases h1 : b' = dx
    · rw [h1, upd_same, upd_same]
    · rw [upd_ne h1, upd_ne h1]
      by_cases h2 : b' = a
      · rw [h2, del_same, na]
      · rw [del_ne h2, e3 b' h2 h1, upd_ne h2]
  rw [eH, zip_rev lvd.symm]
  have t2 : Tr (W.g.wF F) al1 H1 al1 (upd H1 dx (.xd (fs.reverse.zip ([] ++ dvs : List V).reverse))) := .same (upd_new n1)
  refine q1 _ (some dx) _ al1 t2 (st1.same (upd_new n1)) ⟨rfl, .inr ⟨dx, ([] ++ dvs : List V).reverse, rfl, ?_, st1.notin n1, ?_, (rr.tr t2).reverse⟩⟩
  · show upd H1 dx _ dx = some (.xd ((W.g.cf q).zip _))
    rw [upd_same, hcf]
  · show _ ≤ (W.g.cf q).length
    rw [hcf, List.length_reverse, List.length_reverse, lvd]
    exact Nat.le_refl _
end
end Mx
namespace Mx
open PySem L2 RZ RT
section
variable {g : G} {E : XK}
theorem reps_texts {H : Hp} {al : List Addr} : ∀ l : List Str, Reps g H al (l.map V.str) (l.map D.str)
  | [] => .nil
  | x :: l => .cons (.str x) (reps_texts l)
def splitD (x : D) (ds : List D) (s : Sto) : Rs D := match x, ds with
  | .str a, [.str b] => if (b.length == 0) = false ∧ a.length + 2 ≤ sizeLine then newL false ((Txt.split a b).map D.str) s else .bad
  | _, _ => .bad
theorem ok_split : MtRok g E (fun x xs H Q => ∃ a b, x = .str a ∧ xs = [.str b] ∧ (b.length == 0) = false ∧ a.length + 2 ≤ sizeLine ∧ rNewStrs (Txt.split a b) H Q) splitD := by
  intro H al s x v ds vs Q st rx rs p
  unfold splitD at p
  split at p
  · rename_i a b
    cases rx.str_inv
    obtain ⟨w, rfl, ry⟩ := rs.one
    cases ry.str_inv
    by_cases h : (b.length == 0) = false ∧ a.length + 2 ≤ sizeLine
    · rw [if_pos h] at p
      exact ⟨a, b, rfl, rfl, h.1, h.2, fun q n => post_newL st (reps_texts _) p q n⟩
    · rw [if_neg h] at p; exact p.elim
  · exact p.elim
def findD (x : D) (ds : List D) (s : Sto) : Rs D := match x, ds with
  | .str a, [.str b] => .ok (.int (Txt.find a b)) s
  | _, _ => .bad
theorem ok_find : MtRok g E (fun x xs H Q => ∃ a b, x = .str a ∧ xs = [.str b] ∧ Q (.int (Txt.find a b)) H) findD := by
  intro H al s x v ds vs Q st rx rs p
  unfold findD at p
  split at p
  · rename_i a b
    cases rx.str_inv
    obtain ⟨w, rfl, ry⟩ := rs.one
    cases ry.str_inv
    exact ⟨a, b, rfl, rfl, p _ _ _ .refl st (.int _)⟩
  · exact p.elim
end
section
variable {W : Wd} {c : Ct} {E : XK} {X : Cx} {F : List Addr} {o e : Expr} {es : List Expr} {apos pos : Pos} {mo : MD D} {ms : MD (List D)} {j : Nat}
theorem Bx.spl (b : Bx W c E X) (ho : PE X o (TX (W.g.wF F) E mo)) (hb : baseOk o = true) (ha : AR X (e :: es) (W.g.wF F) E j ms) (h28 : (e :: es).length < 29) (hline : (apos.endLine == pos.line) = true) :
    PE X (.Call (.Attribute o "split" apos) (e :: es) [] pos) (TX (W.g.wF F) E (mBM .str splitD mo ms)) :=
  me_bm (T := .str) b.gK PySem.F.plainAttrs_str PySem.F.slot_str_split PySem.F.type_str_split mt_split ok_split ho hb ha.pa ha.pl h28 hline
theorem Bx.fnd (b : Bx W c E X) (ho : PE X o (TX (W.g.wF F) E mo)) (hb : baseOk o = true) (ha : AR X (e :: es) (W.g.wF F) E j ms) (h28 : (e :: es).length < 29) (hline : (apos.endLine == pos.line) = true) :
    PE X (.Call (.Attribute o "find" apos) (e :: es) [] pos) (TX (W.g.wF F) E (mBM .str findD mo ms)) :=
  me_bm (T := .str) b.gK PySem.F.plainAttrs_str PySem.F.slot_str_find PySem.F.type_str_find L2.mt_find ok_find ho hb ha.pa ha.pl h28 hline
end
end Mx
namespace Mx
open PySem L2 RZ RT
section
variable {W : Wd} {c : Ct} {E : XK} {X : Cx} {F : List Addr} {pos p p1 p2 tpos : Pos} {e : Expr} {ma : MD D} {kk : Nat} {y1 y2 : Str}
def or2 (a b : String → Option Bool) (t : String) : Option Bool := match a t with
  | some true => some true
  | some false => b t
  | none => none
theorem or2_ok {a b : String → Option Bool} {i1 i2 : Nat → Option Bool} {u1 u2 : Value} (h1 : IsW W u1 a i1) (h2 : IsW W u2 b i2) {t : String} {r : Bool} (h : or2 a b t = some r) : PySem.W.kitAny W.g.K (.type t) [u1, u2] = some r := by
  unfold or2 at h
  cases ea : a t with
  | none => rw [ea] at h; cases h
  | some x =>
    rw [ea] at h
    cases x with
    | true => cases h; exact kitAny_cons (h1.ty t true ea) (fun z => nomatch z) (fun _ => rfl)
    | false => exact kitAny_cons (h1.ty t false ea) (fun _ => kitAny_cons (r := r) (b := r) (h2.ty t r h) (fun z => by rw [z]; exact kitAny_nil) (fun z => z)) (fun z => nomatch z)
theorem Bx.isi2 (b : Bx W c E X) {T1 T2 : String} {a1 a2 : String → Option Bool} {i1 i2 : Nat → Option Bool} (h1 : IsW W (.type T1) a1 i1) (h2 : IsW W (.type T2) a2 i2) (hy1 : PE X (.Name y1 p1) (tC (.ty T1))) (hy2 : PE X (.Name y2 p2) (tC (.ty T2))) (h0 : BltW W "isinstance") (hg : glB c "isinstance" = true) (he : PE X e (TX (W.g.wF F) E ma)) (hp : plainE e = true) :
    PE X (.Call (.Name "isinstance" p) [e, .Tuple [.Name y1 p1, .Name y2 p2] kk tpos] [] pos) (TX (W.g.wF F) E (mIsi (or2 a1 a2) (fun _ => none) ma)) := by
  obtain ⟨g1, g2, g3⟩ := b.glo hg
  have hT := pe_tup (x1 := kk) (pos := tpos) (pa_cons hy1 (pa_cons hy2 pa_nil rfl) rfl)
  refine pe_mono (pe_callB call_isiT g1 (by rw [b.mg]; exact h0.no) (by decide +kernel) (pa_cons he (pa_cons hT pa_nil rfl) (star_cons hp)) (by decide) (by decide) (star_cons hp) (star_any rfl)) fun σ H Q ⟨ρ, al, s, er, st, q⟩ => ?_
  refine ⟨ρ, al, s, er, st, Post.bind q fun d s1 v H1 al1 hd t st1 rp q1 => ?_⟩
  unfold isiD at q1
  cases et : tyNm d s1 with
  | some ty =>
    rw [et] at q1
    obtain ⟨k, e1, q2⟩ := optD_inv (β := Nat) (γ := Nat) q1
    refine ⟨by rw [sizeLine_eq]; simp, fun tp np => ?_⟩
    have t2 : Tr (W.g.wF F) al1 H1 al1 (upd H1 tp (.tup [V.ty T1, V.ty T2])) := .same (upd_new np)
    have st2 := st1.same (upd_new (o := .tup [V.ty T1, V.ty T2]) np)
    exact ⟨v, tp, [V.ty T1, V.ty T2], .type ty, [.type T1, .type T2], k, rfl, upd_same, .cons (.ty T1) (.cons (.ty T2) .nil), by rw [b.K]; exact tyNm_ok (g := W.g.wF F) st2 (rp.tr t2) et, by rw [b.K]; exact or2_ok h1 h2 e1, q2 _ _ _ t2 st2 (.bl _)⟩
  | none =>
    rw [et] at q1
    obtain ⟨k, e1, q2⟩ := optD_inv (β := Nat) (γ := Nat) q1
    cases ec : clsD d s1 with
    | none => rw [ec] at e1; cases e1
    | some cl => rw [ec] at e1; cases e1
end
end Mx
namespace Mx
open PySem L2 RZ RT
def mMkV (c : Nat) : MD D := fun _ s => .ok (.obj c []) s
@[simp] theorem mMkV_e {c : Nat} {ρ : Ro} {s : Sto} : mMkV c ρ s = .ok (.obj c []) s := rfl
section
variable {W : Wd} {c : Ct} {E : XK} {X : Cx} {F : List Addr} {x : Str} {pos p : Pos} {g : G}
theorem me_plainV {C : Addr} {c : Nat} (M : MkPl X.K C) (hC : g.ca c = C) (hg : Gl X x) (hm : X.mg x = some (.ref C)) (hdb : (x == ("__debug__" : Str)) = false) : PE X (.Call (.Name x p) [] [] pos) (TX g E (mMkV c)) :=
  pe_mono (pe_plain M hg hm hdb) fun σ H Q ⟨ρ, al, s, e, st, q⟩ x dx nx nd ne => by
    subst hC
    have st1 : StOk g (upd H dx (.own x)) al s := st.same (upd_new nd)
    have t1 : Tr g al H al (upd H dx (.own x)) := .same (upd_new nd)
    have nx1 : upd H dx (.own x) x = none := by rw [upd_ne (Ne.symm ne)]; exact nx
    have t2 : Tr g al (upd H dx (.own x)) al (upd (upd H dx (.own x)) x (.ins (g.ca c) dx [])) := .same (upd_new nx1)
    have st2 : StOk g (upd (upd H dx (.own x)) x (.ins (g.ca c) dx [])) al s := st1.same (upd_new nx1)
    exact q _ _ _ (t1.trans t2) st2 (.obj (dx := dx) (vs := []) (by rw [upd_same]; simp) (st1.notin nx1) (Nat.zero_le _) .nil)
theorem Bx.plainV (b : Bx W c E X) {q : Nat} (h : PlW W x q) (hg : glB c x = true) : PE X (.Call (.Name x p) [] [] pos) (TX (W.g.wF F) E (mMkV q)) := by
  obtain ⟨C, hM, hC, hm⟩ := h.ex
  obtain ⟨g1, g2, g3⟩ := b.glo hg
  exact me_plainV (by rw [b.K]; exact hM) hC g1 (by rw [b.mg]; exact hm) g2
end
end Mx
namespace Mx
open PySem L2 RZ RT
section
variable {X : Cx} {pins : List (Addr × Obj)} {σ : St} {H H3 : Hp} {s s3 : Shared} {E : XK}
/-- what goes out of a comprehension's block -/
def outXe (nn : Bool) (X : Cx) (E : XK) (Y : Cx) : Value → Shared → Prop := fun u t => ∃ (ps : List (Addr × Obj)) (τ : St) (Hi : Hp) (si : Shared), Inv Y ps τ Hi si ∧ cxN nn X.prog X.w X.stack Hi si E u t
abbrev blkE (nn : Bool) (X : Cx) (E : XK) (s : Shared) (H : Hp) (scope : Scope) (ce : Env) (fp : List Addr) : Cx := { X.blk s H scope ce fp with xe := outXe nn X E (X.blk s H scope ce fp) }
theorem ok_xe {Y : Cx} {f : Value → Shared → Prop} (k : Y.Ok) : Cx.Ok { Y with xe := f } :=
  ⟨k.mod, k.kind, k.glob, k.blt, k.above, k.inj, k.has, k.cab, k.hd, k.frames, k.stk, k.exf, k.bs, k.bsz, k.noex, k.exfs, k.funs, k.frf⟩
theorem inv_xe {Y : Cx} {f : Value → Shared → Prop} (I : Inv Y pins σ H s) : Inv { Y with xe := f } pins σ H s :=
  ⟨ok_xe I.ok, I.os, I.bare, I.base, I.loc, I.cell, I.free, I.freeC, I.pin, I.hok, I.len⟩
theorem inv_of_xe {Y : Cx} {f : Value → Shared → Prop} (I : Inv { Y with xe := f } pins σ H s) : Inv Y pins σ H s := inv_xe (Y := { Y with xe := f }) (f := Y.xe) I
/-- the heap of an exception's flight, seen from the def: what B keeps, and the frames -/
theorem seen_out (I3 : Inv X pins σ H3 s3) {fp : List Addr} (f3 : ∀ b ∈ fp, FpOk X pins H3 b) {Hi H' : Hp} {si t : Shared} {B : Heap} (u1 : Un (frs X.stack) fp H3 Hi s3.heap si.heap) (o1 : si.os = s3.os) (st : B.StaysIn t.heap) (hok : HOk X.prog X.w H' B) (ub : UB (frs X.stack) Hi H' si.heap B t.heap) (o2 : t.os = si.os) (ag : PyProof.Rows.AllBare t.gens) :
    ∃ G : Heap, Inv X pins σ H' { t with heap := G } ∧ (∀ b o, G.get? b = some o → b ∉ frs X.stack → B.get? b = some o) ∧ ∀ b o, G.get? b = some o → t.heap.get? b = some o := by
  classical
  obtain ⟨G, hG1, hG2⟩ := restrict t.heap fun b => (B.get? b).isSome || decide (b ∈ frs X.stack)
  have inB : ∀ {b o}, B.get? b = some o → G.get? b = some o := fun {b o} e => (hG1 b (by rw [e]; rfl)).trans (st b o e)
  have inF : ∀ {b}, b ∈ frs X.stack → G.get? b = t.heap.get? b := fun {b} hb => hG1 b (by rw [decide_eq_true hb, Bool.or_true])
  have from_ : ∀ {b o}, G.get? b = some o → t.heap.get? b = some o ∧ ((B.get? b).isSome = true ∨ b ∈ frs X.stack) := fun {b o} e => by
    by_cases q : ((B.get? b).isSome || decide (b ∈ frs X.stack)) = true
    · refine ⟨(hG1 b q).symm.trans e, ?_⟩
      rcases Bool.or_eq_true_iff.mp q with q | q
      · exact .inl q
      · exact .inr (of_decide_eq_true q)
    · have z := hG2 b (by simpa using q)
      rw [z] at e; cases e
  refine ⟨G, ?_, fun b o e nb => ?_, fun b o e => (from_ e).1⟩
  · refine I3.call' (s' := { t with heap := G }) (ch := fp) (o2.trans o1) ⟨fun b o e n n1 n2 => ?_, fun b o e n n1 n2 => ?_, fun b o e n n2 => ?_, fun b o e n2 => ?_, fun b xs e => ub.tups b xs (u1.tups b xs e), fun b o u e => ub.frzs b o u (u1.frzs b o u e), fun b ps e => ?_⟩ (hok.kept fun b o e => inB e) ag fun b hb => ⟨(f3 b hb).2.2.2.1, (f3 b hb).2.1, (f3 b hb).2.2.2.2.1, (f3 b hb).2.2.2.2.2⟩
    · exact inB (ub.keep b o (u1.keep b o e n n1 n2) (u1.free b o e n n2) n1)
    · obtain ⟨sl, e1⟩ := u1.slot b o e n n1 n2
      obtain ⟨sl2, e2⟩ := ub.slot b _ e1 n1
      exact ⟨sl2, (inF n1).trans e2⟩
    · obtain ⟨o', e1⟩ := u1.there b o e n2
      exact ub.free b o' e1 (u1.free b o e n n2)
    · obtain ⟨o', e1⟩ := u1.there b o e n2
      by_cases hb : b ∈ frs X.stack
      · obtain ⟨sl, e2⟩ := ub.slot b o' e1 hb
        exact ⟨_, (inF hb).trans e2⟩
      · obtain ⟨o2, e2⟩ := ub.there b o' e1 hb
        exact ⟨o2, inB e2⟩
    · obtain ⟨m1, e1⟩ := u1.tbls b ps e
      obtain ⟨more, e2⟩ := ub.tbls b _ e1
      exact ⟨m1 ++ more, by rw [e2, Array.append_assoc]⟩
  · obtain ⟨e1, q⟩ := from_ e
    rcases q with q | q
    · obtain ⟨o', e2⟩ := Option.isSome_iff_exists.mp q
      rw [e2, (st b o' e2).symm.trans e1]
    · exact absurd q nb
theorem hid_none {h : Heap} {C b : Addr} (e : h.get? b = none) : (PySem.W.hideAll h [C]).get? b = none := by
  cases q : (PySem.W.hideAll h [C]).get? b with
  | none => rfl
  | some o => rw [PySem.W.of_hideAll _ q] at e; cases e
theorem hid_some {h : Heap} {C b : Addr} {o : Obj} (e : (PySem.W.hideAll h [C]).get? b = some o) : h.get? b = some o ∧ b ≠ C := by
  refine ⟨PySem.W.of_hideAll _ e, fun q => ?_⟩
  rw [PySem.W.hideAll_none [C] (by rw [q]; exact List.mem_singleton.mpr rfl)] at e
  cases e
theorem hid_keep {h : Heap} {C b : Addr} {o : Obj} (e : h.get? b = some o) (n : b ≠ C) : (PySem.W.hideAll h [C]).get? b = some o := PySem.W.hideAll_get [C] e fun q => n (List.mem_singleton.mp q)
/-- out of the block, into the def's own frame -/
theorem comp_fails {nn : Bool} (tk : tkN nn X (fun cls d _ H => E cls d H)) (stk : X.stack = X.env :: X.outer) (frm : X.env.frame = some X.env.locals) (I3 : Inv X pins σ H3 s3) {fp : List Addr} (f3 : ∀ b ∈ fp, FpOk X pins H3 b) {scope : Scope} {cl : List (Str × Addr)} {C : Addr} (hC : s3.heap.objs.size ≤ C) {u : Value} {t : Shared}
    (x : outXe nn X E (X.blk s3 H3 scope (compEnvC scope cl C X.env) fp) u t) :
    notedBy (model X.prog X.w) X.A (compEnvC scope cl C X.env) (fun e s' => CompFails (model X.prog X.w) X.A X.xe (compEnvC scope cl C X.env) e s') u t := by
  cases nn with
  | true =>
    obtain ⟨ps, τ, Hi, si, Ii, a, B, H', cls, d, rfl, fl, hok, ub, na, os, ag, hE⟩ := x
    have nC : Hi C = none := Ii.free
    obtain ⟨m0, ⟨oC, es, ep, eC, dC, kC, vC⟩, _⟩ := Ii.loc
    have eC : si.heap.get? C = some oC := eC
    obtain ⟨G, IG, gB, gt⟩ := seen_out I3 f3 Ii.base Ii.os fl.1 hok ub os ag
    have fC := I3.fpOk (H' := Hi) hC nC
    have offC : C ∉ frs X.stack := fun q => by
      rcases List.mem_cons.mp (I3.stkSub C q) with z | z
      · exact fC.2.1 z
      · exact fC.2.2.1 z
    have BC : B.get? C = some oC := ub.keep C oC eC nC offC
    have gC := I3.fpOk (H' := H') hC (ub.free C oC eC nC)
    have hfr : X.A.frames = some (X.env :: X.outer) := by rw [I3.ok.frames, stk]
    rw [stk] at fl
    show wpAny _ _ (noteFrame (.ref a) X.env) _ _ t
    refine PXN.looks_onZ L2N.Zn.steady hfr frm fl fun h1 hh up => ?_
    obtain ⟨k1, k2, k3, oe, vs, T, oT, ts, he, hz, hd, h1', hnT, hTe, hT, hdT, h3⟩ := hh
    have aC : a ≠ C := fun e => by rw [e, BC] at k2; cases k2
    have TC : T ≠ C := fun e => by rw [e, BC] at hnT; cases hnT
    refine ⟨m0, ⟨oC, es, ep, k1 C oC BC, dC, kC, vC⟩, fun h' m' ns' sb => ?_⟩
    have he' : h'.get? a = some oe := (sb.2 a aC).trans he
    have hT' : h'.get? T = some oT := (sb.2 T TC).trans hT
    unfold passOn
    refine wpAny_bind (wpAny_field he' hd h1' ?_)
    rw [if_neg (by simp : ¬ (Value.ref T == Value.none) = true)]
    refine wpAny_bind ?_
    show wpAny _ _ (setFlight (.ref a) X.env.frame) _ _ _
    rw [frm]
    have low : ∀ L ∈ frs (X.env :: X.outer), (PySem.W.hideAll B [C]).get? L = none := fun L hL => hid_none (k3.mem hL).1
    refine HandSPX.setFlight_anyZ (base := PySem.W.hideAll B [C]) (l := X.env :: X.outer) (Z := L2N.Zn cls d) (fl := rawInt X.env.locals) (fun b o e => ?_) (funFrames_none (Heap.FunFrames.sameBut sb ns' k3) low) ⟨oe, vs, T, oT, ts, he', hz, hd, h1', hid_none hnT, hTe, hT', hdT, h3⟩ fun h2 j1 j2 j3 up2 => wpAny_throw (tk _ _ ?_)
    · obtain ⟨e1, n1⟩ := hid_some e
      exact (sb.2 b n1).trans (k1 b o e1)
    · refine ⟨a, PySem.W.hideAll B [C], { t with heap := PySem.W.hideAll G [C] }, pins, σ, H', cls, d, rfl, IG.turned (t' := t.toks) (fun b o n e => hid_keep e n) gC.1 gC.2.1 gC.2.2.2.1 gC.2.2.2.2.1 gC.2.2.2.2.2, fun b o e nb => ?_, fun b o e hn => ?_, ?_, na, rfl, ag, hE⟩
      · obtain ⟨e1, n1⟩ := hid_some e
        exact hid_keep (gB b o e1 nb) n1
      · obtain ⟨e1, n1⟩ := hid_some e
        obtain ⟨sl, e2⟩ := up b o (gt b o e1) hn
        obtain ⟨sl2, e3⟩ := up2 b _ ((sb.2 b n1).trans e2) hn
        exact ⟨sl2, e3⟩
      · rw [stk]
        exact .inr (.inr ⟨j1, hid_none k2, j2, j3⟩)
  | false =>
    obtain ⟨ps, τ, Hi, si, Ii, a, B, H', cls, d, rfl, fl, hok, ub, na, os, ag, hE⟩ := x
    have nC : Hi C = none := Ii.free
    obtain ⟨m0, ⟨oC, es, ep, eC, dC, kC, vC⟩, _⟩ := Ii.loc
    have eC : si.heap.get? C = some oC := eC
    obtain ⟨G, IG, gB, gt⟩ := seen_out I3 f3 Ii.base Ii.os fl.1 hok ub os ag
    have fC := I3.fpOk (H' := Hi) hC nC
    have offC : C ∉ frs X.stack := fun q => by
      rcases List.mem_cons.mp (I3.stkSub C q) with z | z
      · exact fC.2.1 z
      · exact fC.2.2.1 z
    have BC : B.get? C = some oC := ub.keep C oC eC nC offC
    have gC := I3.fpOk (H' := H') hC (ub.free C oC eC nC)
    have hfr : X.A.frames = some (X.env :: X.outer) := by rw [I3.ok.frames, stk]
    rw [stk] at fl
    show wpAny _ _ (noteFrame (.ref a) X.env) _ _ t
    refine HandSPX.looks_onZ Zc.steady hfr frm fl fun h1 hh up => ?_
    obtain ⟨k1, k2, k3, oe, vs, T, oT, ts, he, hz, hd, h1', hnT, hTe, hT, hdT, h3⟩ := hh
    have aC : a ≠ C := fun e => by rw [e, BC] at k2; cases k2
    have TC : T ≠ C := fun e => by rw [e, BC] at hnT; cases hnT
    refine ⟨m0, ⟨oC, es, ep, k1 C oC BC, dC, kC, vC⟩, fun h' m' ns' sb => ?_⟩
    have he' : h'.get? a = some oe := (sb.2 a aC).trans he
    have hT' : h'.get? T = some oT := (sb.2 T TC).trans hT
    unfold passOn
    refine wpAny_bind (wpAny_field he' hd h1' ?_)
    rw [if_neg (by simp : ¬ (Value.ref T == Value.none) = true)]
    refine wpAny_bind ?_
    show wpAny _ _ (setFlight (.ref a) X.env.frame) _ _ _
    rw [frm]
    have low : ∀ L ∈ frs (X.env :: X.outer), (PySem.W.hideAll B [C]).get? L = none := fun L hL => hid_none (k3.mem hL).1
    refine HandSPX.setFlight_anyZ (base := PySem.W.hideAll B [C]) (l := X.env :: X.outer) (Z := Zc cls d) (fl := rawInt X.env.locals) (fun b o e => ?_) (funFrames_none (Heap.FunFrames.sameBut sb ns' k3) low) ⟨oe, vs, T, oT, ts, he', hz, hd, h1', hid_none hnT, hTe, hT', hdT, h3⟩ fun h2 j1 j2 j3 up2 => wpAny_throw (tk _ _ ?_)
    · obtain ⟨e1, n1⟩ := hid_some e
      exact (sb.2 b n1).trans (k1 b o e1)
    · refine ⟨a, PySem.W.hideAll B [C], { t with heap := PySem.W.hideAll G [C] }, pins, σ, H', cls, d, rfl, IG.turned (t' := t.toks) (fun b o n e => hid_keep e n) gC.1 gC.2.1 gC.2.2.2.1 gC.2.2.2.2.1 gC.2.2.2.2.2, fun b o e nb => ?_, fun b o e hn => ?_, ?_, na, rfl, ag, hE⟩
      · obtain ⟨e1, n1⟩ := hid_some e
        exact hid_keep (gB b o e1 nb) n1
      · obtain ⟨e1, n1⟩ := hid_some e
        obtain ⟨sl, e2⟩ := up b o (gt b o e1) hn
        obtain ⟨sl2, e3⟩ := up2 b _ ((sb.2 b n1).trans e2) hn
        exact ⟨sl2, e3⟩
      · rw [stk]
        exact .inr (.inr ⟨j1, hid_none k2, j2, j3⟩)
end
section
variable {X : Cx} {E : XK} {pins : List (Addr × Obj)} {s : Shared} {σ : St} {H : Hp} {Q : VK} {elt tg iter : Expr} {ifs : List Expr} {scope : Scope} {own : List (Str × Nat)} {pos : Pos} {wi : TI} {gt : L2.TG} {tt : TT} {te : TE}
/-- a comprehension whose exceptions go out -/
theorem comp_run {posI : Pos} {use : Option (Value → Sem Unit)} {Qf : Value → Shared → Prop} {nn : Bool} (tk : tkN nn X (fun cls d _ H => E cls d H)) (stk : X.stack = X.env :: X.outer) (frm : X.env.frame = some X.env.locals) (hc : X.calm = true) (hN : X.N.Nodup) (I : Inv X pins σ H s) (hi : PI X tg iter wi) (ok : BlkOk X.N X.env.scope scope own)
    (hb : ∀ (s0 : Shared) (H0 : Hp) (C : Addr) (cl : List (Str × Addr)) (fp : List Addr), PG (blkE nn X E s0 H0 scope (compEnvC scope cl C X.env) fp) tg gt ∧ PTs (blkE nn X E s0 H0 scope (compEnvC scope cl C X.env) fp) ifs tt ∧ PE (blkE nn X E s0 H0 scope (compEnvC scope cl C X.env) fp) elt te)
    (hs : ∀ x, foldedSetIterable iter X.env x = pure x) (h : tLc wi gt tt te (own.map (·.2)) σ H Q)
    (done : ∀ (D : Addr) (ce : Env) (t : Shared) (m : Str → Option Value) (H' : Hp), Inv X pins σ H' t → Q (.ref D) H' → t.heap.Ns ce.locals m → FpOk X pins H' ce.locals → compEnds (model X.prog X.w) X.A X.xe use Qf (.ref D) ce (.ok .next) t) :
    wpAny (model X.prog X.w) X.A (comprehension (.ListComp elt [⟨tg, iter, ifs, 0⟩] scope pos) scope X.env posI (newList []) false (eval iter X.env) use) Qf X.xe s := by
  have cells : ∀ y ∈ scope.names, y.2 = .free → ∃ c, X.env.cells.lookup y.1 = some c := fun y hy e => (ok.free y hy e).elim (fun k => I.ok.has _ (.inl k)) fun k => I.ok.has _ (.inr k)
  refine comprehension_at (use := use) rfl hs (closure_ok cells) ok.kind (fun y hy e => (ok.uniq y hy).trans (congrArg some e)) (thn (hi.run pins s σ H _ I h) fun xv t1 k1 => thn k1 fun itv t2 k2 => ?_)
  obtain ⟨it, fp, tn, J, H2, rfl, I2, T, b2, f2, q⟩ := k2
  refine wpAny_newObj_type (newEnv_comp ?_) (Nat.zero_le _)
  -- the list and the block are laid
  obtain ⟨W, ⟨m0, w0⟩, turn⟩ := q t2.heap.objs.size (I2.hok.fresh (Nat.le_refl _))
  obtain ⟨D, hD⟩ : ∃ D, D = t2.heap.objs.size := ⟨_, rfl⟩
  obtain ⟨t3, ht3⟩ : ∃ t3 : Shared, t3 = { t2 with heap := t2.heap.push { cls := .type "list", data := .seq ([] : List Value).toArray } } := ⟨_, rfl⟩
  have e3 : t3.heap = t2.heap.push { cls := .type "list", data := .seq ([] : List Value).toArray } := by rw [ht3]
  rw [← hD] at w0 turn
  have keep3 : ∀ b o, t2.heap.get? b = some o → t3.heap.get? b = some o := fun b o e => by rw [e3]; exact Heap.get?_push_of_some _ e
  have I3 : Inv X pins σ (upd H2 D (.lst [])) t3 := by
    rw [ht3]
    refine I2.laid (t' := t2.toks) (fun b o e => Heap.get?_push_of_some _ e) (Nat.le_of_eq hD.symm) ⟨Nat.zero_le _, [], 0, .nil, ?_⟩
    rw [hD]; exact Heap.get?_push_size _ rfl
  have fpz : ∀ b ∈ fp, b < t2.heap.objs.size := fun b hb => let ⟨_, e, _⟩ := T.obj _ _ b2 b hb; Heap.lt_size e
  have fpD : ∀ b ∈ fp, b ≠ D := fun b hb e => absurd (fpz b hb) (by rw [e, hD]; exact Nat.lt_irrefl _)
  have f3 : ∀ b ∈ fp, FpOk X pins (upd H2 D (.lst [])) b := fun b hb => ⟨by rw [upd_ne (fpD b hb)]; exact (f2 b hb).1, (f2 b hb).2⟩
  have z3 : ∀ b ∈ fp, b < t3.heap.objs.size := fun b hb => by rw [e3, Heap.size_push]; exact Nat.lt_succ_of_lt (fpz b hb)
  have b3 : tn 0 t3.heap := T.keep _ _ _ b2 fun b _ o e => keep3 b o e
  have I4 := block_start I3 ok hN fun b hb => ⟨f3 b hb, z3 b hb⟩
  obtain ⟨cl, hcl⟩ : ∃ cl, cl = cellsFrom (t3.heap.objs.size + 1) scope.names (cloFrom X.env.cells scope.names []) := ⟨_, rfl⟩
  obtain ⟨C, hC⟩ : ∃ C, C = t3.heap.objs.size := ⟨_, rfl⟩
  obtain ⟨H3, hH3⟩ : ∃ H3, H3 = upd H2 D (.lst []) := ⟨_, rfl⟩
  rw [← hH3] at I3 I4 f3 w0
  have goal_is : codeAny (model X.prog X.w) X.A (.compStart (.ListComp elt [⟨tg, iter, ifs, 0⟩] scope pos) 0 (.ref it) (.ref D) (compEnvC scope cl C X.env)) (compEnds (model X.prog X.w) X.A X.xe use Qf (.ref D) (compEnvC scope cl C X.env)) { t3 with heap := pushCells (t3.heap.push { cls := .type "dict", data := .dict #[] }) scope.names } := ?_
  · rw [hcl, hC, ht3, hD] at goal_is
    exact goal_is
  rw [← hcl, ← hC] at I4
  obtain ⟨pg, pt, pe⟩ := hb t3 H3 C cl fp
  obtain ⟨ce, hce⟩ : ∃ ce, ce = compEnvC scope cl C X.env := ⟨_, rfl⟩
  have cL : ce.locals = C := by rw [hce]; rfl
  have fails : ∀ u t, (blkE nn X E t3 H3 scope ce fp).xe u t → notedBy (model X.prog X.w) X.A ce (fun e s' => compEnds (model X.prog X.w) X.A X.xe use Qf (.ref D) ce (.error e) s') u t := fun u t x => by
    have := comp_fails (nn := nn) (E := E) tk stk frm I3 f3 (scope := scope) (cl := cl) (C := C) (Nat.le_of_eq hC.symm) (u := u) (t := t) (by rw [← hce]; exact x)
    rw [← hce] at this
    cases use <;> exact this
  rw [← hce] at pg pt pe I4 ⊢
  obtain ⟨t4, ht4⟩ : ∃ t4 : Shared, t4 = { t3 with heap := pushCells (t3.heap.push { cls := .type "dict", data := .dict #[] }) scope.names } := ⟨_, rfl⟩
  rw [← ht4] at I4 ⊢
  have b4 : tn 0 t4.heap := T.keep _ _ _ b3 fun b _ o e => by rw [ht4]; exact pushCells_keeps _ _ _ _ (Heap.get?_push_of_some _ e)
  have I4 : Inv (blkE nn X E t3 H3 scope ce fp) [] (L2.wipe σ (own.map (·.2))) H3 t4 := inv_xe I4
  have fpOk : ∀ {τ : St} {H' : Hp} {t : Shared}, Inv (blkE nn X E t3 H3 scope ce fp) [] τ H' t → (∀ b ∈ fp, H' b = none) → ∀ b ∈ fp, FpOk (blkE nn X E t3 H3 scope ce fp) [] H' b := fun {τ H' t} J0 hn b hb =>
    ⟨hn b hb, (J0.ok.exf b hb).1, J0.ok.exfs b hb, .inl hb, fun y c e => (J0.ok.exf b hb).2 y c e, fun p hp => (List.not_mem_nil (show p ∈ ([] : List (Addr × Obj)) from hp)).elim⟩
  have nfp : ∀ b ∈ fp, H3 b = none := fun b hb => (f3 b hb).1
  refine codeAny_compStart_list ?_ (T.self X.A 0 _ _ _ b4 ?_) <;>
  · refine compLoop_any (fun n t => ∃ i H', Inv (blkE nn X E t3 H3 scope ce fp) [] (L2.wipe σ (own.map (·.2))) H' t ∧ tn i t.heap ∧ (∀ b ∈ fp, H' b = none) ∧ W i n H') (fun n t5 k5 => ?_) m0 ⟨0, H3, I4, b4, nfp, w0⟩
    obtain ⟨i, H5, I5, b5, n5, w5⟩ := k5
    rcases turn i n H5 w5 with ⟨hstop, hq⟩ | ⟨hgo, Nx, less, step⟩
    · -- the end
      refine thnF (T.done (blkE nn X E t3 H3 scope ce fp) rfl rfl rfl hc i [] t5 _ H5 (fun _ _ => False) I5 (fpOk I5 n5) b5 hstop) fun r t6 ⟨hr, I6⟩ => ?_
      subst hr
      obtain ⟨m, hn, _⟩ := I6.loc
      have nC : H5 C = none := by rw [← cL]; exact I6.free
      refine done D ce t6 m H5 (I3.call' (ch := fp) I6.os I6.base I6.hok I6.bare fun b hb => ⟨(f3 b hb).2.2.2.1, (f3 b hb).2.1, (f3 b hb).2.2.2.2.1, (f3 b hb).2.2.2.2.2⟩) hq hn ?_
      rw [cL]
      exact I3.fpOk (Nat.le_of_eq hC.symm) nC
    · -- a turn
      refine thnF (T.item (blkE nn X E t3 H3 scope ce fp) rfl rfl rfl hc i [] t5 _ H5 (fun _ _ => False) I5 (fpOk I5 n5) b5 hgo) fun r t6 ⟨u, hr, k6⟩ => ?_
      subst hr
      refine thnF k6 fun _ t7 ⟨x, H7, I7, r7, y7, b7, n7⟩ => ?_
      have P7 := I7.pinned (fpOk I7 n7) (T.obj _ _ b7)
      refine wpAny_mono (pg.run _ t7 _ H7 x u _ P7 r7 (step x H7 y7)) (fun _ t8 ⟨τ, H8, I8, hw, k8⟩ => ?_) fails
      refine wpAny_mono (pt.run _ t8 τ H8 _ I8 k8) (fun v t9 ⟨H9, I9, k9⟩ => ?_) fails
      have next : ∀ {t : Shared} {H' : Hp}, Inv (blkE nn X E t3 H3 scope ce fp) ([] ++ pinsAt fp t7.heap) τ H' t → Nx H' → ∃ m, m < n ∧ ∃ i H', Inv (blkE nn X E t3 H3 scope ce fp) [] (L2.wipe σ (own.map (·.2))) H' t ∧ tn i t.heap ∧ (∀ b ∈ fp, H' b = none) ∧ W i m H' := fun {t H'} J0 nx => by
        obtain ⟨m', hm, w'⟩ := less H' nx
        have pinned : ∀ b ∈ fp, ∀ o, t7.heap.get? b = some o → t.heap.get? b = some o ∧ H' b = none := fun b hb o e =>
          have z := J0.pin (b, o) (List.mem_append_right _ (List.mem_append_right _ (mem_pinsAt hb e)))
          ⟨z.1, z.2.1⟩
        refine ⟨m', hm, i + 1, H', (J0.unpinned (pins := [])).weak (by rw [← hw, wipe_length]) (fun j v e => (wipe_some (by rw [hw]; exact e)).1), T.keep _ _ _ b7 fun b hb o e => (pinned b hb o e).1, fun b hb => ?_, w'⟩
        obtain ⟨o, e, _⟩ := T.obj _ _ b7 b hb
        exact (pinned b hb o e).2
      cases v with
      | false => exact next I9 k9
      | true =>
        refine wpAny_mono (pe.run _ t9 τ H9 _ I9 k9) (fun z t10 ⟨yv, H10, I10, r10, acc, hD10, hz, nx⟩ => ?_) fails
        exact app_ok (X := blkE nn X E t3 H3 scope ce fp) I10 hD10 hz r10 fun t11 I11 => next I11 nx
end
section
variable {X : Cx} {E : XK} {elt tg iter : Expr} {ifs : List Expr} {scope : Scope} {own : List (Str × Nat)} {pos : Pos} {wi : TI} {gt : L2.TG} {tt : TT} {te : TE}
abbrev BlkE (nn : Bool) (X : Cx) (E : XK) (scope : Scope) (tg : Expr) (ifs : List Expr) (elt : Expr) (gt : L2.TG) (tt : TT) (te : TE) : Prop := ∀ (s0 : Shared) (H0 : Hp) (C : Addr) (cl : List (Str × Addr)) (fp : List Addr), PG (blkE nn X E s0 H0 scope (compEnvC scope cl C X.env) fp) tg gt ∧ PTs (blkE nn X E s0 H0 scope (compEnvC scope cl C X.env) fp) ifs tt ∧ PE (blkE nn X E s0 H0 scope (compEnvC scope cl C X.env) fp) elt te
theorem comp_val {nn : Bool} (tk : tkN nn X (fun cls d _ H => E cls d H)) (stk : X.stack = X.env :: X.outer) (frm : X.env.frame = some X.env.locals) (hc : X.calm = true) (hN : X.N.Nodup) (hi : PI X tg iter wi) (ok : BlkOk X.N X.env.scope scope own) (hb : BlkE nn X E scope tg ifs elt gt tt te) (hs : ∀ x, foldedSetIterable iter X.env x = pure x) :
    PE X (.ListComp elt [⟨tg, iter, ifs, 0⟩] scope pos) (tLc wi gt tt te (own.map (·.2))) := by
  refine ⟨fun pins s σ H R I h => ?_⟩
  rw [eval_ListComp]
  exact comp_run (use := none) tk stk frm hc hN I hi ok hb hs h fun D ce t m H' I' q hn f => ⟨m, hn, fun h2 sb => ⟨.ref D, H', I'.turned (t' := t.toks) (fun b o n e => (sb.2 b n).trans e) f.1 f.2.1 f.2.2.2.1 f.2.2.2.2.1 f.2.2.2.2.2, rfl, q⟩⟩
theorem comp_set {i : Nat} {y : Str} {py spos : Pos} {nn : Bool} (tk : tkN nn X (fun cls d _ H => E cls d H)) (stk : X.stack = X.env :: X.outer) (frm : X.env.frame = some X.env.locals) (hc : X.calm = true) (hN : X.N.Nodup) (hy : X.N[i]? = some y) (hyl : X.env.scope.names.lookup y = some .local)
    (hsw : swapsWith (.ListComp elt [⟨tg, iter, ifs, 0⟩] scope pos) (some (.Name y py)) spos.line X.env = pure true) (hi : PI X tg iter wi) (ok : BlkOk X.N X.env.scope scope own) (hb : BlkE nn X E scope tg ifs elt gt tt te) (hs : ∀ x, foldedSetIterable iter X.env x = pure x) :
    PS X (.Assign [.Name y py] (.ListComp elt [⟨tg, iter, ifs, 0⟩] scope pos) spos) (tAsg (tLc wi gt tt te (own.map (·.2))) (gName i)) := by
  refine ⟨fun pins s σ H K I h => ?_⟩
  rw [exec_Assign_Name_used _ _ _ _ (hsw)]
  refine wpAny_bind (wpAny_standAt (wpAny_bind (wpAny_bind (thn (comp_run (posI := firstIterPos [⟨tg, iter, ifs, 0⟩] pos) (use := some (assign (.Name y py) X.env)) (Q := fun v H1 => gName i v σ H1 K.nx) (Qf := fun _ t => SP X pins K .next t) tk stk frm hc hN I hi ok hb hs h fun Lx ce t m H' I' q hn f => ?_) fun _ t k => wpAny_pure (wpAny_pure k)))))
  show wpAny _ _ (assign (.Name y py) X.env (.ref Lx)) _ _ _
  refine wpAny_assign_Name (store_ok2 (v := V.ref Lx) I' hN hy (.inl hyl) rfl (fun t2 I2 ⟨a, sb, ha⟩ => ?_) (.inr hyl))
  have ne : ce.locals ≠ a := by
    rcases ha with z | z
    · rw [z]; exact f.2.1
    · exact fun e => f.2.2.2.2.1 y a z e.symm
  exact ⟨m, hn.sameBut sb ne, fun h3 sb3 => ⟨_, H', I2.turned (t' := t2.toks) (fun b o n e => (sb3.2 b n).trans e) f.1 f.2.1 f.2.2.2.1 f.2.2.2.2.1 f.2.2.2.2.2, q⟩⟩
end
section
variable {g : G} {E : XK} {H : Hp} {al : List Addr} {s : Sto} {σ : St} {ρ : Ro}
def lcE (mt : D → MD Ro) (tt : MD Bool) (te : MD D) (gd : Sto → Bool) : List D → MD (List D)
  | [], _, s => if gd s then .ok [] s else .bad
  | d :: ds, ρ, s => if gd s then (mt d ρ s).bind fun ρ2 s => (tt ρ2 s).bind fun b s => if b = true then (te ρ2 s).bind fun y s => (lcE mt tt te gd ds ρ s).bind fun ys s => .ok (y :: ys) s else lcE mt tt te gd ds ρ s
    else .bad
def mLcE (c : Bool) (vs : List Nat) (src : MD Src) (mt : D → MD Ro) (tt : MD Bool) (te : MD D) : MD D := fun ρ s => (src ρ s).bind fun k s => if k.items.length ≤ sizeLine then (lcE mt tt te k.guard k.items (wipeD ρ vs) s).bind (lcEnd c) else .bad
theorem ExR.unF {p : Addr} {c : Nat} {ds : List D} {cls : Value} {dd : Option Addr} (x : ExR (g.aside p) H al c ds cls dd) : ExR g H al c ds cls dd :=
  ⟨x.1, x.2.imp id fun ⟨dx, vs, e1, e2, o, l, r⟩ => ⟨dx, vs, e1, e2, ⟨o.1, fun m => o.2 (List.mem_cons_of_mem _ m)⟩, l, r.unF⟩⟩
/-- a step beside the list that grows; what is raised goes on -/
theorem Post.beside {p : Addr} {β γ δ ε : Type} {rel : Hp → List Addr → β → γ → Prop} {rel2 : Hp → List Addr → δ → ε → Prop} {r : Rs γ} {k : γ → Sto → Rs ε} {Q : β → Hp → Prop} {Q2 : δ → Hp → Prop} {H0 : Hp} {al0 : List Addr}
    (h : Post g E rel2 (r.bind k) H0 al0 Q2) (t0 : Tr g al0 H0 al H)
    (hk : ∀ d s1 v H1 al1, r = .ok d s1 → Tr (g.aside p) al H al1 H1 → StOk (g.aside p) H1 al1 s1 → rel H1 al1 v d → Post g E rel2 (k d s1) H0 al0 Q2 → Q v H1) : Post (g.aside p) E rel r H al Q := by
  cases r with
  | bad => exact h
  | ok d s => exact fun v H' al' u st rp => hk d s v H' al' rfl u st rp h
  | exc c ds s => exact fun cls dd H' al' u st x => h cls dd H' al' (t0.trans u.unF) st.unF x.unF
theorem tx_lcE {src : MD Src} {vs : List Nat} {mt : D → MD Ro} {tt : MD Bool} {te : MD D} {c : Bool} {Q : VK} (h : TX g E (mLcE c vs src mt tt te) σ H Q) :
    tLc (TIx g E src) (tgA g E vs mt) (anyF fun F => TXb (g.wF F) E tt) (anyF fun F => TX (g.wF F) E te) vs σ H Q := by
  obtain ⟨ρ, al, s, er, st, p⟩ := h
  refine ⟨ρ, al, s, er, st, Post.bind p fun k s1 J H1 al1 _ t st1 gd p1 Dx nD => ?_⟩
  by_cases hK : k.items.length ≤ sizeLine
  · rw [if_pos hK] at p1
    have nF : Dx ∉ g.F := (st1.notin nD).2
    have tr0 : Tr (g.aside Dx) al1 H1 al1 (upd H1 Dx (.lst [])) := .same (upd_new nD)
    have so0 : StOk (g.aside Dx) (upd H1 Dx (.lst [])) al1 s1 := st1.aside nD (fun _ z => nomatch z)
    have en0 := (((er.tr t).inF nD).tr tr0).wipe vs
    refine ⟨fun i m H' => ∃ al' s' acc accV, EnvR (g.aside Dx) H' al' (L2.wipe σ vs) (wipeD ρ vs) ∧ StOk (g.aside Dx) H' al' s' ∧ Tr g al1 H1 al' H' ∧ H' Dx = some (.lst accV) ∧ Reps (g.aside Dx) H' al' accV acc ∧ (acc.length ≤ i ∧ i ≤ k.items.length) ∧ m = k.items.length - i ∧
        Post g E (Rep g) ((lcE mt tt te k.guard (k.items.drop i) (wipeD ρ vs) s').bind fun ys s => lcEnd c (acc ++ ys) s) H1 al1 Q,
      ⟨k.items.length, al1, s1, [], [], en0, so0, tr0.unF, upd_same, .nil, ⟨Nat.zero_le _, Nat.zero_le _⟩, rfl, p1⟩, ?_⟩
    rintro i m H' ⟨al', s', acc, accV, en, so, tr, hD, ra, ⟨ha, hi⟩, rfl, p2⟩
    have na : Dx ∉ al' := fun m => so.apart Dx m List.mem_cons_self
    have good := gd (Dx :: g.F) H' al' s' (fun _ _ r => Rep.tr (tr.inF na) (Rep.inF nD r)) tr.fz so
    by_cases hlt : i < k.items.length
    · have hd : k.items[i]? = some k.items[i] := List.getElem?_eq_getElem hlt
      rw [drop_cons hd] at p2
      by_cases hgd : k.guard s'
      · rw [lcE, if_pos hgd, bind_assoc] at p2
        obtain ⟨g1, g2, g3⟩ := good hgd
        refine .inr ⟨g1 i hlt, fun H3 => ∃ al3 s3 acc3 accV3, EnvR (g.aside Dx) H3 al3 (L2.wipe σ vs) (wipeD ρ vs) ∧ StOk (g.aside Dx) H3 al3 s3 ∧ Tr g al1 H1 al3 H3 ∧ H3 Dx = some (.lst accV3) ∧ Reps (g.aside Dx) H3 al3 accV3 acc3 ∧ acc3.length ≤ i + 1 ∧
            Post g E (Rep g) ((lcE mt tt te k.guard (k.items.drop (i + 1)) (wipeD ρ vs) s3).bind fun ys s => lcEnd c (acc3 ++ ys) s) H1 al1 Q, ?_, fun x H2 hy => ?_⟩
        · rintro H3 ⟨al3, s3, acc3, accV3, q1, q2, q3, q4, q5, q6, q7⟩
          exact ⟨k.items.length - (i + 1), Nat.sub_lt_sub_left hlt (Nat.lt_succ_self i), al3, s3, acc3, accV3, q1, q2, q3, q4, q5, ⟨q6, hlt⟩, rfl, q7⟩
        · obtain ⟨t2, so2, d, e1, rp⟩ := g3 i x H2 hlt hy
          rw [hd] at e1; cases e1
          have b2 := tr.trans t2.unF
          refine ⟨Dx :: g.F, _, wipeD ρ vs, al', s', rp, en.tr t2, so2, Post.beside p2 b2 fun ρ4 s4 σ4 H4 al4 _ t4 so4 en4 p4 hw => ?_⟩
          rw [bind_assoc] at p4
          have b4 := b2.trans t4.unF
          refine ⟨by rw [hw]; exact (by apply List.ext_getElem?; intro j; rw [wipe_get, wipe_get]; by_cases m : j ∈ vs <;> simp [m, Function.comp_def]), Dx :: g.F, ρ4, al4, s4, en4, so4, Post.beside p4 b4 fun b s5 v H5 al5 _ t5 so5 rb p5 => ?_⟩
          have rb' : v = b := rb
          subst rb'
          have b5 := b4.trans t5.unF
          have tt5 : Tr (g.aside Dx) al' H' al5 H5 := (t2.trans t4).trans t5
          cases v with
          | false =>
            rw [if_neg Bool.false_ne_true] at p5 ⊢
            exact ⟨al5, s5, acc, accV, en.tr tt5, so5, b5, tt5.keep _ _ na hD, ra.tr tt5, Nat.le_succ_of_le ha, p5⟩
          | true =>
            rw [if_pos rfl] at p5 ⊢
            rw [bind_assoc] at p5
            refine ⟨Dx :: g.F, ρ4, al5, s5, en4.tr t5, so5, Post.beside p5 b5 fun y s6 w H6 al6 _ t6 so6 ry p6 => ?_⟩
            have tt6 : Tr (g.aside Dx) al' H' al6 H6 := tt5.trans t6
            rw [lcEnd_cons] at p6
            have rl := ra.length
            exact ⟨accV, tt6.keep _ _ na hD, by rw [rl]; omega, al6, s6, acc ++ [y], accV ++ [w], (en.tr tt6).wk, so6.wk (fun _ z => nomatch z), (b5.trans t6.unF).updNew nD, upd_same, ((ra.tr tt6).append (.cons ry .nil)).wk, by rw [List.length_append]; exact Nat.succ_le_succ ha, p6⟩
      · rw [lcE, if_neg hgd] at p2; exact p2.elim
    · have e : i = k.items.length := Nat.le_antisymm hi (Nat.le_of_not_lt hlt)
      subst e
      rw [List.drop_length] at p2
      by_cases hgd : k.guard s'
      · rw [lcE, if_pos hgd, Rs.bind_ok, List.append_nil] at p2
        obtain ⟨g1, g2, g3⟩ := good hgd
        refine .inl ⟨g2, ?_⟩
        unfold lcEnd at p2
        rw [if_pos (Nat.le_trans ha hK)] at p2
        cases c with
        | false => exact p2 _ H' al' tr so.unF (.lst hD ⟨na, nF⟩ ra.unF)
        | true =>
          have so2 := so.toCell nF hD ra
          refine p2 (.ref Dx) H' (al' ++ [Dx]) ⟨?_, tr.keep, tr.dom, tr.fz⟩ so2 (.ref (by rw [← so.len]; simp))
          obtain ⟨be, e, f1, f2⟩ := tr.ex
          refine ⟨be ++ [Dx], by rw [e, List.append_assoc], fun a m => ?_, fun a m => ?_⟩
          · exact (List.mem_append.mp m).elim (f1 a) fun m => by rw [List.mem_singleton.mp m]; exact nD
          · exact (List.mem_append.mp m).elim (f2 a) fun m => by rw [List.mem_singleton.mp m]; exact nF
      · rw [lcE, if_neg hgd] at p2; exact p2.elim
  · rw [if_neg hK] at p1; exact p1.elim
end
section
variable {W : Wd} {c : Ct} {E : XK} {X : Cx} {F : List Addr} {i : Nat} {pos : Pos} {elt tg iter : Expr} {ifs : List Expr} {scope : Scope} {src : MD Src} {mt : D → MD Ro} {tt : MD Bool} {te : MD D}
theorem Bx.inE (b : Bx W c E X) {s : Shared} {H : Hp} {cl : List (Str × Addr)} {C : Addr} {fp : List Addr} (hk : scope.kind = .function) : Bx W (c.blk scope) E (blkE W.nn X E s H scope (compEnvC scope cl C X.env) fp) :=
  ⟨b.prog, b.w, b.K, b.mg, b.base, b.N, by show relS scope X.env.scope = _; rw [b.sc], rfl, b.nd, b.calm, hk, b.room, fun pins σ H s e s' I h => ⟨pins, σ, H, s, inv_of_xe I, h⟩⟩
/-- [e for x in xs if ..], whose parts may raise -/
theorem Sx.lcE (b : Sx W c E X) (k : Bool) (own : List (Str × Nat)) (ok : BlkOk c.N c.sc scope own) (hi : PI X tg iter (TIx (W.g.wF F) E src))
    (h : ∀ X' F', Bx W (c.blk scope) E X' → PG X' tg (tgR (W.g.wF F') E (own.map (·.2)) mt) ∧ PTs X' ifs (TXb (W.g.wF F') E tt) ∧ PE X' elt (TX (W.g.wF F') E te)) (hs : ∀ x, foldedSetIterable iter X.env x = pure x) :
    PE X (.ListComp elt [⟨tg, iter, ifs, 0⟩] scope pos) (TX (W.g.wF F) E (mLcE k (own.map (·.2)) src mt tt te)) :=
  pe_mono (comp_val (gt := tgA (W.g.wF F) E (own.map (·.2)) mt) (tt := anyF fun F' => TXb ((W.g.wF F).wF F') E tt) (te := anyF fun F' => TX ((W.g.wF F).wF F') E te) b.tk b.stk b.frm b.calm (by rw [b.N]; exact b.nd) hi (by rw [b.N, b.sc]; exact ok)
    (fun s H C cl fp => ⟨⟨fun pins s σ H v u Q I r ⟨F', q⟩ => ((h _ F' (b.toBx.inE ok.kind)).1).run pins s σ H v u Q I r q⟩, ⟨fun pins s σ H Q I ⟨F', q⟩ => ((h _ F' (b.toBx.inE ok.kind)).2.1).run pins s σ H Q I q⟩, ⟨fun pins s σ H Q I ⟨F', q⟩ => ((h _ F' (b.toBx.inE ok.kind)).2.2).run pins s σ H Q I q⟩⟩) hs) fun σ H Q h => tx_lcE h
theorem Sx.setLcE (b : Sx W c E X) (k : Bool) {y : Str} {py spos : Pos} (own : List (Str × Nat)) (ok : BlkOk c.N c.sc scope own) (hy : setB c i y = true) (hi : PI X tg iter (TIx (W.g.wF F) E src))
    (h : ∀ X' F', Bx W (c.blk scope) E X' → PG X' tg (tgR (W.g.wF F') E (own.map (·.2)) mt) ∧ PTs X' ifs (TXb (W.g.wF F') E tt) ∧ PE X' elt (TX (W.g.wF F') E te)) (hs : ∀ x, foldedSetIterable iter X.env x = pure x) :
    PS X (.Assign [.Name y py] (.ListComp elt [⟨tg, iter, ifs, 0⟩] scope pos) spos) (TSx (W.g.wF F) E (sAsg (mLcE k (own.map (·.2)) src mt tt te) (tgName i))) := by
  obtain ⟨h1, h2, h3, h4⟩ := b.toBx.setI hy
  by_cases hw : (X.env.blockKind == .function && X.env.kindOf y == some .local && py.line == pos.line && !(scope.names.any fun (n, k) => n == y && (k == .local || k == .cell))) = true
  · simp only [Bool.and_eq_true, beq_iff_eq, Bool.not_eq_true'] at hw
    refine ps_mono (comp_set (gt := tgA (W.g.wF F) E (own.map (·.2)) mt) (tt := anyF fun F' => TXb ((W.g.wF F).wF F') E tt) (te := anyF fun F' => TX ((W.g.wF F).wF F') E te) b.tk b.stk b.frm b.calm h4 h1 hw.1.1.2 (sw_true (by rw [b.sc]; exact b.kd) hw.1.1.2 (by simpa using hw.1.2) hw.2) hi (by rw [b.N, b.sc]; exact ok)
      (fun s H C cl fp => ⟨⟨fun pins s σ H v u Q I r ⟨F', q⟩ => ((h _ F' (b.toBx.inE ok.kind)).1).run pins s σ H v u Q I r q⟩, ⟨fun pins s σ H Q I ⟨F', q⟩ => ((h _ F' (b.toBx.inE ok.kind)).2.1).run pins s σ H Q I q⟩, ⟨fun pins s σ H Q I ⟨F', q⟩ => ((h _ F' (b.toBx.inE ok.kind)).2.2).run pins s σ H Q I q⟩⟩) hs) fun En σ H ⟨ρ, al, s, er, st, p⟩ => ?_
    refine tx_lcE (g := W.g.wF F) (E := E) (c := k) ⟨ρ, al, s, er, st, Post.bind p fun d s1 v H1 al1 _ t st1 rp p1 => ?_⟩
    exact dq_ok (fv := .nx _) p1 st1 ((er.tr t).set rp)
  · exact ms_setLc2 h4 h1 h2 h3 (Bool.not_eq_true _ ▸ hw) (b.lcE k own ok hi h hs)
end
end Mx
namespace Mx
open PySem L2 RZ RT
variable {g : G} {E : XK} {X : Cx} {H : Hp} {al : List Addr} {s : Sto} {σ : St} {ρ : Ro}
/-- what is known of the things is forgotten -/
def fgD : D → D
  | .twn _ ds => .lst ds
  | d => d
def mFg (m : MD D) : MD D := fun ρ s => (m ρ s).bind fun d s => .ok (fgD d) s
theorem Rep.fg {v : V} {d : D} (r : Rep g H al v d) : Rep g H al v (fgD d) := by
  cases r with
  | twn h o r => exact .lst h o r
  | non => exact .non
  | bl b => exact .bl b
  | int i => exact .int i
  | str x => exact .str x
  | ref h => exact .ref h
  | tupH h o r => exact .tupH h o r
  | tupK q h r => exact .tupK q h r
  | lst h o r => exact .lst h o r
  | frz h o r => exact .frz h o r
  | frzK h r => exact .frzK h r
  | obj h o l r => exact .obj h o l r
  | exv0 h o => exact .exv0 h o
  | exv1 h o hx ox l r => exact .exv1 h o hx ox l r
theorem me_fg {e : Expr} {m : MD D} (h : PE X e (TX g E m)) : PE X e (TX g E (mFg m)) :=
  pe_mono h fun σ H Q ⟨ρ, al, s, er, st, p⟩ => ⟨ρ, al, s, er, st, Post.bind p fun d s1 v H1 al1 _ t st1 rp p1 => p1 v H1 al1 .refl st1 rp.fg⟩
open Classical
/-- y = list(x): x at slot i is a list that stands by itself; from here on both are twins. What follows (R) answers alike whatever the things are -/
noncomputable def sTwin (i j : Nat) (R : MD Fl) : MD Fl := fun ρ s => match ρ[i]? with
  | some (some (.lst ds)) => if ds.length ≤ sizeLine ∧ i < ρ.length ∧ j < ρ.length ∧ ∀ xs : List V, R ((ρ.set i (some (.twn xs ds))).set j (some (.twn xs ds))) s = R ((ρ.set i (some (.twn [] ds))).set j (some (.twn [] ds))) s then R ((ρ.set i (some (.twn [] ds))).set j (some (.twn [] ds))) s else .bad
  | _ => .bad
theorem sTwin_ok {i j : Nat} {R : MD Fl} {ds : List D} {r : Rs Fl} (h1 : ρ[i]? = some (some (.lst ds))) (h2 : j < ρ.length) (hl : ds.length ≤ sizeLine) (h : ∀ xs : List V, R ((ρ.set i (some (.twn xs ds))).set j (some (.twn xs ds))) s = r) : sTwin i j R ρ s = r := by
  unfold sTwin
  rw [h1]
  have hi : i < ρ.length := (List.getElem?_eq_some_iff.mp h1).1
  show (if _ then _ else _) = _
  rw [if_pos ⟨hl, hi, h2, fun xs => (h xs).trans (h []).symm⟩, h]
/-- the call list(x), the list's things in hand -/
def tCopy (K : PySem.W.Frag) (i : Nat) : TE := fun σ H Q => ∃ p ys, σ[i]? = some (some (.ref p)) ∧ H p = some (.lst ys) ∧ ∀ l, H l = none → Q (.ref l) (upd H l (.lst ys))
section
variable {W : Wd} {c : Ct} {F : List Addr} {x y : Str} {i j : Nat} {p p2 py pos spos : Pos} {rest : List Stmt} {R : MD Fl}
theorem Bx.copy (b : Bx W c E X) (h : BltW W "list") (hg : glB c "list" = true) (hx : varB c i x = true) : PE X (.Call (.Name "list" p) [.Name x p2] [] pos) (tCopy X.K i) := by
  unfold varB at hx
  simp only [Bool.and_eq_true, Bool.or_eq_true, bne_iff_ne, ne_eq, beq_iff_eq] at hx
  obtain ⟨⟨⟨h1, h2⟩, h3⟩, h4⟩ := hx
  have v : PE X (.Name x p2) (tVar i) := pe_var (by rw [b.N]; exact h1) (by unfold Vis; rw [b.sc]; exact h2) (beq_eq_false_iff_ne.mpr h3) (beq_eq_false_iff_ne.mpr h4)
  refine pe_mono (pe_callTy call_list_of (b.glo hg).1 (by rw [b.mg]; exact h.no) (by show bootBuiltins "list" = _; decide +kernel) (pa_cons v pa_nil) (hn := by show ("list" : Str) ≠ _; decide) (hdb := by show (("list" : Str) == _) = _; decide) (he := star_cons rfl) (hpl := star_any rfl)) fun σ H Q ⟨a, ys, e1, e2, q⟩ => ?_
  exact ⟨.ref a, e1, a, ys, rfl, .inl (.inl (.inl e2)), q⟩
theorem Bx.twin (b : Bx W c E X) (h : BltW W "list") (hg : glB c "list" = true) (hx : varB c i x = true) (hy : setB c j y = true) (hij : i ≠ j) (hr : PSs X rest (TSx (W.g.wF F) E R)) :
    PSs X (.Assign [.Name y py] (.Call (.Name "list" p) [.Name x p2] [] pos) spos :: rest) (TSx (W.g.wF F) E (sTwin i j R)) := by
  obtain ⟨h1, h2, h3, h4⟩ := b.setI hy
  refine pss_mono (pss_cons (ps_asg (b.copy h hg hx) (pg_name h4 h1 h2 h3)) hr) fun En σ H ⟨ρ, al, s, er, st, q⟩ => ?_
  unfold sTwin at q
  cases e : ρ[i]? with
  | none => rw [e] at q; exact q.elim
  | some o =>
    cases o with
    | none => rw [e] at q; exact q.elim
    | some d =>
      rw [e] at q
      obtain ⟨v, ev, rv⟩ := er.2 i d e
      cases rv with
      | lst hp ho rs =>
        rename_i p ys ds
        by_cases k : ds.length ≤ sizeLine ∧ i < ρ.length ∧ j < ρ.length ∧ ∀ xs : List V, R ((ρ.set i (some (.twn xs ds))).set j (some (.twn xs ds))) s = R ((ρ.set i (some (.twn [] ds))).set j (some (.twn [] ds))) s
        · have q : Post (W.g.wF F) E (relF (W.g.wF F)) (if ds.length ≤ sizeLine ∧ i < ρ.length ∧ j < ρ.length ∧ ∀ xs : List V, R ((ρ.set i (some (.twn xs ds))).set j (some (.twn xs ds))) s = R ((ρ.set i (some (.twn [] ds))).set j (some (.twn [] ds))) s then R ((ρ.set i (some (.twn [] ds))).set j (some (.twn [] ds))) s else .bad) H al (Dq En) := q
          rw [if_pos k, ← k.2.2.2 ys] at q
          refine ⟨p, ys, ev, hp, fun l nl => ?_⟩
          have ol := st.notin nl
          have t : Tr (W.g.wF F) al H al (upd H l (.lst ys)) := .same (upd_new nl)
          have r1 : Rep (W.g.wF F) (upd H l (.lst ys)) al (.ref p) (.twn ys ds) := .twn (upd_new nl _ _ hp) ho (rs.tr t)
          have r2 : Rep (W.g.wF F) (upd H l (.lst ys)) al (.ref l) (.twn ys ds) := .twn upd_same ol (rs.tr t)
          have e1 := ((er.tr t).set (i := i) r1).set (i := j) r2
          have same : (σ.set i (some (.ref p))) = σ := by
            apply List.ext_getElem?
            intro n
            by_cases z : i = n
            · subst z
              rw [List.getElem?_set_self (List.getElem?_eq_some_iff.mp ev).1, ev]
            · rw [List.getElem?_set_ne z]
          rw [same] at e1
          exact ⟨_, al, s, e1, st.same (upd_new nl), Post.tr (r := R _ s) q t⟩
        · have q : Post (W.g.wF F) E (relF (W.g.wF F)) (if ds.length ≤ sizeLine ∧ i < ρ.length ∧ j < ρ.length ∧ ∀ xs : List V, R ((ρ.set i (some (.twn xs ds))).set j (some (.twn xs ds))) s = R ((ρ.set i (some (.twn [] ds))).set j (some (.twn [] ds))) s then R ((ρ.set i (some (.twn [] ds))).set j (some (.twn [] ds))) s else .bad) H al (Dq En) := q
          rw [if_neg k] at q; exact q.elim
      | _ => exact q.elim
end
def sLk (i : Nat) (S : MD Fl) : MD Fl := fun ρ s => match ρ[i]? with
  | some (some (.ref n)) => match s[n]? with
    | some (.dK kvs) => unl n (.dK kvs) (S ρ (s.set n (.fK kvs)))
    | _ => .bad
  | _ => .bad
theorem sLk_ok {i n : Nat} {S : MD Fl} {kvs : List (Key × D)} (h1 : ρ[i]? = some (some (.ref n))) (h2 : s[n]? = some (.dK kvs)) : sLk i S ρ s = unl n (.dK kvs) (S ρ (s.set n (.fK kvs))) := by
  unfold sLk
  rw [h1]; show (match s[n]? with | some (.dK kvs) => _ | _ => _) = _
  rw [h2]
theorem ms_lk {st : Stmt} {S : MD Fl} (i : Nat) (h : PS X st (TSx g E S)) : PS X st (TSx g E (sLk i S)) := by
  refine ps_mono (ps_lock h) fun En σ H ⟨ρ, al, s, er, st, p⟩ => ?_
  unfold sLk at p
  split at p
  · rename_i n _
    split at p
    · rename_i kvs e1
      have hn : n < s.length := (List.getElem?_eq_some_iff.mp e1).1
      obtain ⟨pa, hpa⟩ : ∃ pa, al[n]? = some pa := ⟨_, List.getElem?_eq_getElem (by rw [st.len]; exact hn)⟩
      obtain ⟨kv, h1, h2, r⟩ := st.cell n _ _ hpa e1
      have nf : ∀ o w, HO.dK kv ≠ .frz o w := fun _ _ z => nomatch z
      refine ⟨pa, .dK kv, h1, True.intro, fun od => ?_⟩
      refine ⟨ρ, al, s.set n (.fK kvs), er.tr (.write hpa h1 nf), st.write hpa ⟨od, kv, upd_same, h2, r.out (upd_out hpa)⟩, ?_⟩
      generalize S ρ (s.set n (.fK kvs)) = z at p ⊢
      cases z with
      | bad => exact p.elim
      | exc _ _ _ => exact p.elim
      | ok f s' =>
        intro fv H' al' t st' rf
        have ix := t.ix hpa
        have back : CellOk g (upd H' pa (.dK kv)) al' pa (.dK kvs) := ⟨kv, upd_same, h2, ((r.out (upd_out hpa)).tr t).out (upd_out ix)⟩
        have end_ : Dq En fv (upd H' pa (.dK kv)) := p fv _ al' (Tr.unlock hpa h1 nf t) (st'.write ix back) (relF_out (upd_out ix) rf)
        have locked := t.fz pa od (.dK kv) upd_same
        cases fv <;> exact ⟨locked, end_⟩
    · exact p.elim
  · exact p.elim
def frzE (n : Nat) (s : Sto) (ρ : Ro) : Ro := ρ.map fun o => o.bind (frzD n s 20)
theorem frzE_ok {be : List Addr} {s' : Sto} (st : StOk g H (al ++ be) s') (e : EnvR g H (al ++ be) σ ρ) : EnvR g H al σ (frzE al.length s' ρ) := by
  refine ⟨by unfold frzE; rw [List.length_map]; exact e.1, fun i d' h => ?_⟩
  unfold frzE at h
  rw [List.getElem?_map] at h
  cases q : ρ[i]? with
  | none => rw [q] at h; cases h
  | some o =>
    rw [q] at h
    cases o with
    | none => cases h
    | some d =>
      have h' : some (frzD al.length s' 20 d) = some (some d') := h
      obtain ⟨v, h1, h2⟩ := e.2 i d q
      exact ⟨v, h1, frzD_ok st 20 d d' v (Option.some.inj h') h2⟩
def sBlk2 (m1 m2 R : MD Fl) : MD Fl := fun ρ s => match m1 ρ s with
  | .ok (.nx ρ1) s1 => (match m2 ρ1 s1 with
    | .ok (.nx ρ2) s2 => if Sto.beq (s2.take s.length) s = true then R (frzE s.length s2 ρ2) s else .bad
    | _ => .bad)
  | _ => .bad
theorem sBlk2_ok {m1 m2 R : MD Fl} {ρ1 ρ2 : Ro} {s1 s2 : Sto} (h1 : m1 ρ s = .ok (.nx ρ1) s1) (h2 : m2 ρ1 s1 = .ok (.nx ρ2) s2) (h3 : s2.take s.length = s) : sBlk2 m1 m2 R ρ s = R (frzE s.length s2 ρ2) s := by
  unfold sBlk2
  rw [h1]
  simp only [h2, h3, Sto.beq_refl, if_true]
theorem ms_blk2 {st1 st2 : Stmt} {rest : List Stmt} {m1 m2 R : MD Fl} (h1 : PS X st1 (TSx g E m1)) (h2 : PS X st2 (TSx g E m2)) (hr : PSs X rest (TSx g E R)) : PSs X (st1 :: st2 :: rest) (TSx g E (sBlk2 m1 m2 R)) := by
  refine pss_mono (pss_cons h1 (pss_cons h2 hr)) fun En σ H ⟨ρ, al, s, er, st, p⟩ => ?_
  unfold sBlk2 at p
  refine ⟨ρ, al, s, er, st, ?_⟩
  generalize m1 ρ s = z1 at p ⊢
  cases z1 with
  | bad => exact p.elim
  | exc _ _ _ => exact p.elim
  | ok f1 s1 =>
    cases f1 with
    | nx ρ1 =>
      dsimp only at p
      intro fv1 H1 al1 t1 st1' rf1
      cases fv1 <;> first | exact rf1.elim | skip
      rename_i σ1
      refine ⟨ρ1, al1, s1, rf1, st1', ?_⟩
      generalize m2 ρ1 s1 = z2 at p ⊢
      cases z2 with
      | bad => exact p.elim
      | exc _ _ _ => exact p.elim
      | ok f2 s2 =>
        cases f2 with
        | nx ρ2 =>
          dsimp only at p
          intro fv2 H2 al2 t2 st2' rf2
          cases fv2 <;> first | exact rf2.elim | skip
          rename_i σ2
          by_cases q : Sto.beq (s2.take s.length) s = true
          · rw [if_pos q] at p
            have t := t1.trans t2
            obtain ⟨be, rfl, _⟩ := id t.ex
            have e2 : EnvR g H2 (al ++ be) σ2 ρ2 := rf2
            have e3 := frzE_ok st2' e2
            rw [st.len] at e3
            exact ⟨_, al, s, e3, st.shrink st2' (Sto.beq_ok q), p.tr t.forget⟩
          · rw [if_neg q] at p; exact p.elim
        | _ => exact p.elim
    | _ => exact p.elim
end Mx
namespace Mx
open PySem PySem.Spec PyProof.Rows L2 RZ RT
/-- the same world, where calls let out only exceptions whose context is None -/
abbrev Wd.N (W : Wd) : Wd := { W with nn := true }
theorem cx_weak {P : Program} {w : World} {outer : List Env} {H : Hp} {s s' : Shared} {E : XK} {u : Value} (x : L2N.CX P w outer H s E u s') : L2.CX P w outer H s E u s' := by
  obtain ⟨a, B, H', cls, d, e, fl, r⟩ := x
  exact ⟨a, B, H', cls, d, e, L2H.flyingZ_imp (fun _ z => z.zc) fl, r⟩
theorem fnok_weak {P : Program} {w : World} {K : PySem.W.Frag} {mg : Str → Option Value} {base : Heap} {k : Nat} {f : Addr} {fd : FuncData} {ps : List Str} {sp : Sp} (F : FnOk P w K mg base (L2N.CX P w) k f fd ps sp) : FnOk P w K mg base (L2.CX P w) k f fd ps sp :=
  ⟨F.len, fun A outer s H args us vs Q E hr e0 hb r h => codeAny_mono (F.run A outer s H args us vs Q E hr e0 hb r h) fun r s' z => match r, z with
    | .error _, z => cx_weak z
    | .ok (.ret _), z => z
    | .ok .next, z => z
    | .ok .brk, z => z
    | .ok .cont, z => z⟩
section
variable {W : Wd} {c : Ct} {E : XK} {X : Cx}
theorem Bx.toN (b : Bx W c (fun _ _ _ => False) X) : Bx W.N c (fun _ _ _ => False) X := ⟨b.prog, b.w, b.K, b.mg, b.base, b.N, b.sc, b.fn, b.nd, b.calm, b.kd, b.room, passes_no⟩
end
/-- the clause takes it, and its suite raises -/
def wHot (K : PySem.W.Frag) (c : Value) (ts : TS) : WX := fun cls _ σ H => PySem.W.exmOne K cls c = some true ∧ ts { nx := fun _ _ => False, rt := fun _ _ => False } σ H
section
variable {X : Cx} {x : Str} {c : Value} {body suite orelse : List Stmt} {b₀ : Stmt} {np pos pos' : Pos} {tb : WX → TS} {ts u : TS} {V : WX}
/-- the caught one, as the suite's context has it -/
theorem hot_inv {B : Heap} {pins : List (Addr × Obj)} {σ : L2.St} {H : Hp} {cls : Value} {d : Option Addr} {a : Addr} {sI s : Shared} (hf : X.env.frame = some X.env.locals) (hs : X.stack = X.env :: X.outer) (hex : X.ex = []) (J : Inv X pins σ H sI)
    (nb : ∀ b o, sI.heap.get? b = some o → b ∉ frs X.stack → B.get? b = some o) (fl : HandSPX.FlyingZ B (X.env :: X.outer) a (L2N.Zn cls d) s.heap) (up : sI.heap.UpToSlots s.heap) (os : s.os = sI.os) (ag : PyProof.Rows.AllBare s.gens) (na : H a = none) :
    ∃ oe, s.heap.get? a = some oe ∧ oe.cls = cls ∧ L2H.HotC (L2H.suiteX X a ((a, oe) :: (X.pn ++ pins))) ∧ Inv (L2H.suiteX X a ((a, oe) :: (X.pn ++ pins))) [] σ H s ∧ Inv X pins σ H s := by
  have k := Caught.of hf hs hex J nb (L2H.flyingZ_imp (fun _ z => z.zc) fl) up os ag na
  obtain ⟨oe, vs, h1, h2, h3⟩ := fl.there
  exact ⟨oe, h1, h2.1, ⟨(a, oe), ⟨rfl, vs, h3, h2.2.2 vs h3⟩, List.mem_cons_self⟩, L2H.suiteX_of (k.inv.suite h1 h3 na k.loc k.out), k.inv⟩
theorem ps_hot (hs : X.stack = X.env :: X.outer) (hf : X.env.frame = some X.env.locals) (hex : X.ex = []) (hc : Names X x c) (own : ∀ hd : Option Value, PassesOwnAt (model X.prog X.w) (X.A.mark hd) X.A X.env X.xe) (tk : L2.Takes X V)
    (hb : ∀ (W : WX) (pn : List (Addr × Obj)) (xe : Value → Shared → Prop), L2N.Takes (X.tr pn xe) W → PassesOwn (model X.prog X.w) X.A X.env xe → PSs (X.tr pn xe) body (tb W))
    (hsu : ∀ (a : Addr) (pn : List (Addr × Obj)), L2.Takes (L2H.suiteX X a pn) V → L2H.HotC (L2H.suiteX X a pn) → PSs (L2H.suiteX X a pn) (b₀ :: suite) ts) (ho : PSs X orelse u) :
    PS X (.Try body [.ExceptHandler (some (.Name x np)) none (b₀ :: suite) pos'] orelse [] pos) (fun D σ H => tb (wHot X.K c ts) { D with nx := u D } σ H) := by
  constructor
  intro pins s σ H D I h
  have hfr : X.A.frames = some (X.env :: X.outer) := by rw [I.ok.frames, hs]
  refine wpAny_Try_except (wpAny_mono ((hb (wHot X.K c ts) (X.pn ++ pins) _ (show L2N.Takes _ _ from ?took) PassesOwn.looking).run [] s σ H _ (I.toTry _) h) ?ends fun _ _ z => z)
  case ends =>
    intro f s1 q
    cases f with
    | next =>
      obtain ⟨σ', H', J, q⟩ := q
      exact ho.run pins s1 σ' H' D (J.ofTry I.ok) q
    | ret u =>
      obtain ⟨v, σ', H', J, r, q⟩ := q
      exact ⟨v, σ', H', J.ofTry I.ok, r, q⟩
    | brk =>
      obtain ⟨σ', H', J, q⟩ := q
      exact ⟨σ', H', J.ofTry I.ok, q⟩
    | cont =>
      obtain ⟨σ', H', J, q⟩ := q
      exact ⟨σ', H', J.ofTry I.ok, q⟩
  case took =>
    rintro _ s' ⟨a, B, sI, pins', σ', H', cls, d, rfl, J', nb, up, sky, na, os, ag, hm, run⟩
    have J : Inv X pins σ' H' sI := J'.ofTry I.ok
    refine L2N.Sky.land L2N.Zn.steady hfr hf (by rw [← hs]; exact sky) fun h3 fl3 up3 => ?_
    obtain ⟨o3, e3, c3, _, I3, K3⟩ := hot_inv (s := { s' with heap := h3 }) hf hs hex J nb fl3 (up.trans up3) os ag na
    have cl3 : PySem.W.Looks (model X.prog X.w) h3 (typeOf (.ref a)) cls := fun A Q E s k q => wpAny_typeOf_ref (k _ _ e3) (by rw [c3]; exact q)
    have look : ∀ {Q E : Value → Shared → Prop}, Q c { s' with heap := h3 } → wpAny (model X.prog X.w) (X.A.mark (some (.ref a))) (eval (.Name x np) X.env) Q E { s' with heap := h3 } := by
      intro Q E q
      obtain ⟨g1, g2, g3 | ⟨g3, g4, g5⟩⟩ := hc
      · exact ld_glob (X := L2H.suiteX X a ((a, o3) :: (X.pn ++ pins))) I3 g1 g3 q g2
      · exact ld_blt (X := L2H.suiteX X a ((a, o3) :: (X.pn ++ pins))) I3 g1 g3 g4 q g5 g2
    refine wpAny_handleBy_cons (codeAny_handlers_test (look ((PySem.W.exm_one K3.kIn cl3 hm).here (codeAny_handlers_suite (HandSPX.lands_againZ fl3 fun h4 fl4 up4 => ?_))))) (fun z => nomatch z)
    obtain ⟨o4, e4, _, hot, I4, _⟩ := hot_inv (s := { s' with heap := h4 }) hf hs hex J nb fl4 ((up.trans up3).trans up4) os ag na
    have tkS : L2.Takes (L2H.suiteX X a ((a, o4) :: (X.pn ++ pins))) V := fun u2 s2 ⟨a2, B2, sI2, pn2, σ2, H2, cls2, d2, e2, I2, r2⟩ => tk u2 s2 ⟨a2, B2, sI2, pins, σ2, H2, cls2, d2, e2, L2H.unsuiteX I2 I.ok, r2⟩
    refine wpAny_mono ((hsu a _ tkS hot).run [] _ _ H' _ I4 run) (fun f s6 q => ?_) (own (some (.ref a)))
    cases f with
    | next =>
      obtain ⟨_, _, _, q⟩ := q
      exact q.elim
    | ret u =>
      obtain ⟨_, _, _, _, _, q⟩ := q
      exact q.elim
    | brk =>
      obtain ⟨_, _, _, q⟩ := q
      exact q.elim
    | cont =>
      obtain ⟨_, _, _, q⟩ := q
      exact q.elim
end
section
variable {X : Cx} {C : Addr} {bmB : List Value} {B newId initId : String}
theorem pmk5_own {x m : Str} {j : Nat} {p p2 pos : Pos} (BF : ExcBaseFacts B newId initId bmB) (isE : PySem.W.excIn X.K C bmB newId = true) (gm : X.mg x = some (.ref C)) (kp : PySem.W.keepIn X.K (.ref C) = true) (rs : Raises X (.ref C)) (gl : Gl X x) (gd : (x == ("__debug__" : Str)) = false) :
    L2H.PMk5 X (.Call (.Name x p) [.Constant (.str m) j p2] [] pos) (fun _ H Q => Q (.ref C) none H) := by
  rintro pins st σ H Q I want
  have one : PA X [.Constant (.str m) j p2] (tCons (tC (.str m)) tNil) := pa_cons pe_str pa_nil
  have ev := one.run pos pins st σ H (fun vs G => G = H ∧ vs = [.str m]) I ⟨rfl, rfl⟩
  refine wpAny_Call_Name_kw (ld_glob I gl gm (PySem.W.callWith_K (h₀ := X.base) I.ok.mod.kin kp (thn ev ?_)) gd)
  rintro args s1 ⟨_, _, J, isV, rfl, rfl⟩
  refine ⟨J.kIn, ?_⟩
  match args, isV with
  | [w], .cons _ .nil =>
    obtain ⟨_, _, _, _, _, _, _, _, _, _, _, _, _, _, _, _, _, atC, atN, noI, tail⟩ := exc_obj J.kIn isE
    refine wpAny_call_exc_subT BF tail atC atN noI (fun h' e made => L2H.mk_of5 J made rs want (J.hok.gone made.new)) ?_
    show 1 ≤ sizeLine
    rw [sizeLine_eq]
    omega
end
/-- the context of such a suite -/
structure Hx (W : Wd) (c : Ct) (E : XK) (X : Cx) : Prop extends Qx W c X where
  tk : L2.Takes X (fun cls d _ H => E cls d H)
  hot : L2H.HotC X
/-- a def's own context, where a suite may raise -/
structure Sy (W : Wd) (c : Ct) (E : XK) (X : Cx) : Prop extends Sx W c E X where
  owns : ∀ hd : Option Value, PassesOwnAt (model X.prog X.w) (X.A.mark hd) X.A X.env X.xe
section
variable {W : Wd} {c : Ct} {E : XK} {X : Cx} {F : List Addr} {x : Str} {q : Nat} {mm : Str} {j kk : Nat} {p p2 pos pos2 cpos : Pos}
theorem Hx.mk5 (b : Hx W c E X) (h : RaiW W x q) (hg : glB c x = true) : L2H.PMk5 X (.Call (.Name x p) [.Constant (.str mm) j p2] [] pos) (fun _ H Q => Q (.ref (W.g.ca q)) none H) :=
  pmk5_own PySem.F.excBase_ValueError (by rw [b.K]; exact h.ei) (by rw [b.mg]; exact h.g) (by rw [b.K]; exact h.k) (raises_own (by rw [b.K]; exact h.b) (by rw [b.K]; exact h.t)) (b.toQx.glo hg).1 (b.toQx.glo hg).2.1
theorem Hx.raise0N (b : Hx W c E X) (h : RaiW W x q) (hg : glB c x = true) : PS X (.Raise (some (.Call (.Name x p) [.Constant (.str mm) j p2] [] pos)) (some (.Constant .none kk cpos)) pos2) (TSx (W.g.wF F) E (sRaise q)) :=
  ps_mono (L2H.ps_raiseHN b.hot b.tk (b.mk5 h hg)) fun En σ H ⟨ρ, al, s, er, st, z⟩ => z _ none H al .refl st ⟨rfl, .inl ⟨rfl, rfl⟩⟩
theorem Hx.raise0 (b : Hx W c E X) (h : RaiW W x q) (hg : glB c x = true) : PS X (.Raise (some (.Call (.Name x p) [.Constant (.str mm) j p2] [] pos)) none pos2) (TSx (W.g.wF F) E (sRaise q)) :=
  ps_mono (L2H.ps_raiseH b.hot b.tk (b.mk5 h hg).pmk) fun En σ H ⟨ρ, al, s, er, st, z⟩ => z _ none H al .refl st ⟨rfl, .inl ⟨rfl, rfl⟩⟩
end
def sTryX (ex : Nat → Option Bool) (m suite orelse : MD Fl) : MD Fl := fun ρ s => match m ρ s with
  | .ok (.nx ρ') s' => orelse ρ' s'
  | .exc q _ s' => if ex q = some true then (match suite ρ s' with
      | .exc q2 ds2 s2 => .exc q2 ds2 s2
      | _ => .bad) else .bad
  | _ => .bad
section
variable {W : Wd} {c : Ct} {E : XK} {X : Cx} {F : List Addr} {x n : Str} {i : Nat} {body suite orelse : List Stmt} {b₀ : Stmt} {np pos pos' : Pos} {m ms mo : MD Fl} {ex : Nat → Option Bool}
theorem Sy.tryX (b : Sy W c E X) (h0 : W.nn = false) (h : ExmW W x ex) (hg : glB c x = true)
    (hb : ∀ (X' : Cx) (Eσ : L2.St → XK), Sx W c (fun _ _ _ => False) X' → (∀ σ, PassesAt (cxN true X'.prog X'.w) X' σ (Eσ σ)) → PSs X' body (TSe (W.g.wF F) Eσ m))
    (hsu : ∀ X', Hx W c E X' → PSs X' (b₀ :: suite) (TSx (W.g.wF F) E ms)) (ho : PSs X orelse (TSx (W.g.wF F) E mo)) :
    PS X (.Try body [.ExceptHandler (some (.Name x np)) none (b₀ :: suite) pos'] orelse [] pos) (TSx (W.g.wF F) E (sTryX ex m ms mo)) := by
  have tk : L2.Takes X (fun cls d _ H => E cls d H) := by
    have z := b.tk
    rw [h0] at z
    exact z
  obtain ⟨C, hm, hex⟩ := h.ex
  obtain ⟨g1, g2, g3⟩ := b.toBx.glo hg
  refine ps_mono (ps_hot (c := .ref C) (tb := fun W' => TSe (W.g.wF F) (WE W') m) (ts := TSx (W.g.wF F) E ms) (u := TSx (W.g.wF F) E mo) (V := fun cls d _ H => E cls d H) b.stk b.frm b.ex0 ⟨g1, g2, .inl (by rw [b.mg]; exact hm)⟩ b.owns tk
    (fun W' pn xe tk po => hb _ _ (b.toSx.tr po) fun σ => L2N.passAt tk σ) (fun a pn tk hot => hsu _ ⟨⟨b.prog, b.w, b.K, b.mg, b.base, b.N, b.sc, b.fn, b.nd, b.kd, ⟨b.room.dp, b.room.un⟩⟩, tk, hot⟩) ho) fun En σ H ⟨ρ, al, s, er, st, q⟩ => ?_
  refine ⟨ρ, al, s, er, st, ?_⟩
  unfold sTryX at q
  cases em : m ρ s with
  | bad => rw [em] at q; exact q.elim
  | ok f s' =>
    rw [em] at q
    intro fv H' al' t' st' rf
    cases f with
    | nx ρ' =>
      cases fv with
      | nx σ' => exact ⟨ρ', al', s', rf, st', Post.tr (r := mo ρ' s') q t'⟩
      | ret _ => exact rf.elim
      | bk _ => exact rf.elim
      | ct _ => exact rf.elim
    | ret _ => exact q.elim
    | bk _ => exact q.elim
    | ct _ => exact q.elim
  | exc qq ds s' =>
    rw [em] at q
    intro cls dd H' al' t' st' xr
    obtain ⟨rfl, hxr⟩ := xr
    simp only at q
    by_cases ee : ex qq = some true
    · rw [if_pos ee] at q
      refine ⟨by rw [b.K]; exact hex qq true ee, ρ, al', s', er.tr t', st', ?_⟩
      cases es : ms ρ s' with
      | bad => rw [es] at q; exact q.elim
      | ok _ _ => rw [es] at q; exact q.elim
      | exc q2 ds2 s2 =>
        rw [es] at q
        exact fun cls2 dd2 H2 al2 t2 st2 x2 => q cls2 dd2 H2 al2 (t'.trans t2) st2 x2
    · rw [if_neg ee] at q
      exact q.elim
end
section
variable {W : Wd} {N ps : List Str} {st : Stmt} {x qual : Str} {f : Addr} {fd : FuncData} {m : MD Fl} {dvs : List V} {kws : List (Str × V)}
/-- a def with such a try -/
theorem fn_defY (h0 : W.nn = false) (FD : FunD W.g.K x qual (defArgs st) (defBody st) (defScope st) dvs kws f fd) (S : FnScope N ps (defScope st)) (hm : ∀ F E X, Sy W ⟨N, defScope st, fun _ => true⟩ E X → PSs X (defBody st) (TSx (W.g.wF F) E m)) :
    FnOk W.P W.w W.g.K W.mg W.base (cxN W.nn W.P W.w) (W.kk + 2) f fd ps (spOf W.g ps.length (callM N.length m)) := by
  obtain ⟨oc, od, dV, kV, doc, pm, an, cdv, ct, osl, rfl, lk, hcd, _, _⟩ := FD.ex
  refine fn_of (k := W.kk + 1) lk hcd S (fun vs H Q E h => h.1) fun A outer s H vs Q E hr hsp => ?_
  obtain ⟨hl, F, ds, al, s0, rs, st0, p⟩ := hsp
  have tk := takesN_of (nn := W.nn) (X := cxOf (cxN W.nn W.P W.w) W.P W.w W.g.K W.mg W.base N qual (defScope st) f cdv A outer s H E) (E := E) rfl rfl rfl rfl
  have b : Sy W ⟨N, defScope st, fun _ => true⟩ E (cxOf (cxN W.nn W.P W.w) W.P W.w W.g.K W.mg W.base N qual (defScope st) f cdv A outer s H E) :=
    ⟨⟨⟨rfl, rfl, rfl, rfl, rfl, rfl, rfl, rfl, S.nd, rfl, S.kind, hr, passesN tk fun _ _ _ _ h => h⟩, passes_of rfl, tk, rfl, rfl, rfl⟩, L2H.passesAt_of rfl⟩
  refine ⟨_, hm F E _ b, _, al, s0, env_start rs, st0, ?_⟩
  refine Post.bind p fun fl s1 fv H1 al1 _ t1 st1 rf p1 => ?_
  cases fl <;> cases fv <;> first | exact rf.elim | skip
  · exact p1 _ _ _ .refl st1 .non
  · exact p1 _ _ _ .refl st1 rf
  · exact p1.elim
  · exact p1.elim
end
structure FnQ (P : Program) (w : World) (K : PySem.W.Frag) (mg : Str → Option Value) (base : Heap) (k : Nat) (f : Addr) (fd : FuncData) (ps : List Str) (sp : Sp) : Prop where
  len : ∀ vs H Q E, sp vs H Q E → vs.length = ps.length
  run : ∀ (A : Around) (outer : List Env) (s : Shared) (H : Hp) (args : Args) (us : List Value) (vs : List V) (Q : VK), L2H.RoomH k A → Env0 P w K mg base A outer s H → BindsTo s fd args (ps.zip us) → Vals vs us → sp vs H Q (fun _ _ _ => False) →
    codeAny (model P w) A (.call (.ref f) args) (CR (fun _ _ _ _ _ _ => False) outer P w H s Q (fun _ _ _ => False)) s
theorem FnQ.mono {P : Program} {w : World} {K : PySem.W.Frag} {mg : Str → Option Value} {base : Heap} {j k : Nat} {f : Addr} {fd : FuncData} {ps : List Str} {sp : Sp} (F : FnQ P w K mg base j f fd ps sp) (h : j ≤ k) : FnQ P w K mg base k f fd ps sp :=
  ⟨F.len, fun A outer s H args us vs Q r => F.run A outer s H args us vs Q (r.mono h)⟩
/-- the body's context: whatever is handled, nothing may be raised -/
def coldX (P : Program) (w : World) (K : PySem.W.Frag) (mg : Str → Option Value) (base : Heap) (N : List Str) (qual : Str) (scope : Scope) (f : Addr) (cd : Value) (A : Around) (outer : List Env) (s : Shared) (H : Hp) : Cx :=
  { cxOf (fun _ _ _ _ _ _ => False) P w K mg base N qual scope f cd A outer s H (fun _ _ _ => False) with calm := false, xe := fun _ _ => False }
section
variable {P : Program} {w : World} {K : PySem.W.Frag} {mg : Str → Option Value} {base : Heap} {k : Nat} {f : Addr} {name qual : Str} {params : Arguments} {body : List Stmt} {scope : Scope} {dV kV doc pm cdv ct oc : Value} {an od : Option Addr} {osl : Array (Option Value)} {N ps : List Str} {sp : Sp}
theorem cold_start {A : Around} {outer : List Env} {s s1 : Shared} {H : Hp} {us : List Value} {vs : List V} (S : FnScope N ps scope) (e0 : Env0 P w K mg base A outer s H) (hl : vs.length = ps.length) (r : Vals vs us)
    (x : InCallC s s.heap.objs.size (bindL (envOfC qual scope s.heap.objs.size f cdv).kindOf (ps.zip us) fun _ => none) (cellsFrom (s.heap.objs.size + 1) scope.names []) (bindC (envOfC qual scope s.heap.objs.size f cdv).kindOf (ps.zip us) fun _ => none) s1) :
    Inv (coldX P w K mg base N qual scope f cdv A outer s H) [] (L2.start N vs) H s1 := by
  have I := inv_start (CX := fun _ _ _ _ _ _ => False) (E := fun _ _ _ => False) (A := { A with handled := none }) (qual := qual) (f := f) (cd := cdv) S rfl ⟨e0.frames, e0.mod, e0.bs, e0.bsz, e0.funs, e0.frf, e0.hok, e0.bare⟩ hl r x
  obtain ⟨k1, k2, k3, k4, k5, k6, k7, k8, _, _, k11, k12, k13, k14, k15, k16, k17, k18⟩ := I.ok
  exact inv_ctx I ⟨k1, k2, k3, k4, k5, k6, k7, k8, (fun z => nomatch z), Around.frames_deeper e0.frames, k11, k12, k13, k14, k15, k16, k17, k18⟩ rfl
theorem fnq_of (lk : K.lookup f = some ⟨oc, od, .func (PySem.W.fnOf name qual params body scope dV kV doc pm an cdv ct), osl⟩) (hcd : PySem.W.codeIn K cdv qual = true) (S : FnScope N ps scope) (len : ∀ vs H Q E, sp vs H Q E → vs.length = ps.length)
    (ok : ∀ (A : Around) (outer : List Env) (s : Shared) (H : Hp) (vs : List V) (Q : VK), L2H.RoomH k (A.deeper (envOfC qual scope s.heap.objs.size f cdv)) → sp vs H Q (fun _ _ _ => False) →
      ∃ t, PSs (coldX P w K mg base N qual scope f cdv A outer s H) body t ∧ t { nx := fun _ G => Q .non G, rt := Q } (L2.start N vs) H) :
    FnQ P w K mg base (k + 1) f (PySem.W.fnOf name qual params body scope dV kV doc pm an cdv ct) ps sp := by
  constructor
  · exact len
  intro A outer s H args us vs Q room e0 bnd vals want
  have inK : K.In s.heap := e0.mod.kin.keeps fun b o e => (e0.bs b o e).1
  have kinds : ∀ z ∈ ps.zip us, scope.names.lookup z.1 = some .local ∨ (scope.names.lookup z.1 = some .cell ∧ ((cellsFrom (s.heap.objs.size + 1) scope.names []).lookup z.1).isSome = true) := by
    rintro ⟨n, v⟩ hz
    rcases S.par n (List.of_mem_zip hz).1 with q | q
    · exact .inl q
    · exact .inr ⟨q, PySem.W.cellsFrom_some _ _ _ (.inl q)⟩
  refine codeAny_call_function room.depth (inK _ _ lk) rfl S.co S.gen rfl (PySem.W.codeRec_of inK hcd) (bnd _ _ _ _ (wpAny_newFunctionEnv_cells S.kind kinds ?_))
  rintro _ rfl s1 x
  refine ⟨(e0.mod.nolimit.keeps fun b o e => (e0.bs b o e).1 : s.heap.NoLimit).keeps x.toInCall.keep, codeAny_func ?_⟩
  obtain ⟨t, good, start⟩ := ok A outer s H vs Q (room.deeper _) want
  refine wpAny_mono (good.run [] s1 _ H _ (cold_start S e0 (len _ _ _ _ want) vals x) start) (fun fl s' back => ?_) fun _ _ z => z.elim
  match fl, back with
  | .ret u, ⟨v, _, G, J, rv, q⟩ => exact ⟨v, G, J.os, J.bare, J.base, J.hok, rv, q⟩
  | .next, ⟨_, G, J, q⟩ => exact ⟨.non, G, J.os, J.bare, J.base, J.hok, rfl, q⟩
  | .brk, ⟨_, _, _, q⟩ => exact q.elim
  | .cont, ⟨_, _, _, q⟩ => exact q.elim
end
section
variable {W : Wd} {N ps : List Str} {st : Stmt} {x qual : Str} {f : Addr} {fd : FuncData} {m : MD Fl} {dvs : List V} {kws : List (Str × V)}
theorem fn_defQ (FD : FunD W.g.K x qual (defArgs st) (defBody st) (defScope st) dvs kws f fd) (S : FnScope N ps (defScope st)) (hm : ∀ F X, Qx W ⟨N, defScope st, fun _ => true⟩ X → PSs X (defBody st) (TSx (W.g.wF F) (fun _ _ _ => False) m)) :
    FnQ W.P W.w W.g.K W.mg W.base (W.kk + 2) f fd ps (spOf W.g ps.length (callM N.length m)) := by
  obtain ⟨oc, od, dV, kV, doc, pm, an, cdv, ct, osl, rfl, lk, hcd, _, _⟩ := FD.ex
  refine fnq_of (k := W.kk + 1) lk hcd S (fun vs H Q E h => h.1) fun A outer s H vs Q room want => ?_
  obtain ⟨_, F, ds, al, s0, rs, st0, p⟩ := want
  refine ⟨_, hm F _ ⟨rfl, rfl, rfl, rfl, rfl, rfl, rfl, rfl, S.nd, S.kind, room⟩, _, al, s0, env_start rs, st0, Post.bind p fun fl s1 fv H1 al1 _ t1 st1 rf p1 => ?_⟩
  cases fl <;> cases fv <;> first | exact rf.elim | skip
  · exact p1 _ _ _ .refl st1 .non
  · exact p1 _ _ _ .refl st1 rf
  · exact p1.elim
  · exact p1.elim
end
/-- called in a suite -/
structure CallQ (W : Wd) (x : Str) (n : Nat) (φ : List D → Sto → Rs D) : Prop where
  ex : ∃ (f : Addr) (fd : FuncData) (ps : List Str), FnQ W.P W.w W.g.K W.mg W.base W.kk f fd ps (spOf W.g n φ) ∧ W.mg x = some (.ref f) ∧ PySem.W.keepIn W.g.K (.ref f) = true ∧ Binds W.g.K fd ps []
theorem callQ_of {W : Wd} {x : Str} {n k : Nat} {φ : List D → Sto → Rs D} {f : Addr} {fd : FuncData} {ps : List Str} (O : FnQ W.P W.w W.g.K W.mg W.base k f fd ps (spOf W.g n φ)) (hk : k ≤ W.kk) (hm : W.mg x = some (.ref f)) (kp : PySem.W.keepIn W.g.K (.ref f) = true) (hb : Binds W.g.K fd ps []) : CallQ W x n φ :=
  ⟨f, fd, ps, O.mono hk, hm, kp, hb⟩
def mCallQ (φ : List D → Sto → Rs D) (ms : MD (List D)) : MD D := fun ρ s => (ms ρ s).bind fun ds s => match φ ds s with
  | .ok d s => .ok d s
  | _ => .bad
section
variable {W : Wd} {c : Ct} {E : XK} {X : Cx} {F : List Addr} {x : Str} {j n : Nat} {p pos : Pos} {e : Expr} {es : List Expr} {ms : MD (List D)} {φ : List D → Sto → Rs D}
theorem Qx.call (b : Qx W c X) (h : CallQ W x n φ) (hg : glB c x = true) (ha : AR X (e :: es) (W.g.wF F) E j ms) (hn : j = n) : PE X (.Call (.Name x p) (e :: es) [] pos) (TX (W.g.wF F) E (mCallQ φ ms)) := by
  obtain ⟨f, fd, ps, hF, hm, kp, hb⟩ := h.ex
  obtain ⟨g1, g2, _⟩ := b.glo hg
  have hp := ha.pl
  rw [List.all_cons, Bool.and_eq_true] at hp
  constructor
  rintro pins s σ H Q I ⟨ρ, al, s0, er, st, q⟩
  refine wpAny_Call_Name_kw (ld_glob I g1 (by rw [b.mg]; exact hm) (PySem.W.callWith_K (h₀ := X.base) I.ok.mod.kin (by rw [b.K]; exact kp) (thn (ha.pa.run pos pins s σ H (fun vs G => spOf (W.g.wF F) n φ vs G Q (fun _ _ _ => False)) I ⟨ρ, al, s0, er, st, ?_⟩) ?_) (star_cons hp.1) (star_any hp.2)) g2)
  · refine Post.bind q fun ds s1 vs H1 al1 ed t1 st1 rs q1 => ⟨?_, F, ds, al1, s1, rs, st1, ?_⟩
    · rw [rs.length, ha.len _ _ _ _ ed, hn]
    · cases ep : φ ds s1 with
      | bad => rw [ep] at q1; exact q1.elim
      | exc _ _ _ => rw [ep] at q1; exact q1.elim
      | ok d s2 => rw [ep] at q1; exact q1
  · rintro us s1 ⟨vs, H1, I1, r, want⟩
    refine ⟨I1.kIn, ?_⟩
    have F1 : FnQ X.prog X.w X.K X.mg X.base W.kk f fd ps (spOf (W.g.wF F) n φ) := by
      rw [b.prog, b.w, b.K, b.mg, b.base]
      exact ⟨hF.len, hF.run⟩
    have hl : us.length = ps.length := by rw [← r.length]; exact F1.len _ _ _ _ want
    have bnd := hb s1 us (by rw [← b.K]; exact I1.kIn) (by rw [List.append_nil]; exact hl)
    rw [List.append_nil] at bnd
    refine wpAny_call (codeAny_mono (F1.run X.A X.stack s1 H1 ⟨us, []⟩ us vs Q (b.rm.mono (Nat.le_succ _)) I1.env0 bnd r want) fun r2 s2 back => ?_)
    match r2, back with
    | .error _, back => exact back.elim
    | .ok (.ret u), back => exact I1.after back
    | .ok .next, back => exact back.elim
    | .ok .brk, back => exact back.elim
    | .ok .cont, back => exact back.elim
end
end Mx
namespace Mx
open PySem L2
section
variable {γ δ : Type} {c : Prop} [Decidable c]
/-- the next step of a run -/
def nxt {α β : Type} (r : Rs α) (k : α → Sto → Rs β) : Rs β := r.bind k
def bin1 (f : D → D → Sto → Rs D) (b : MD D) (ρ : Ro) (r : Rs D) : Rs D := r.bind fun x s => (b ρ s).bind fun y s => f x y s
def bin2 (f : D → D → Sto → Rs D) (x : D) (r : Rs D) : Rs D := r.bind fun y s => f x y s
@[simp] theorem mBin_e {f : D → D → Sto → Rs D} {a b : MD D} {ρ : Ro} {s : Sto} : mBin f a b ρ s = bin1 f b ρ (a ρ s) := rfl
@[simp] theorem bin1_ok {f : D → D → Sto → Rs D} {b : MD D} {ρ : Ro} {s : Sto} {x : D} : bin1 f b ρ (.ok x s) = bin2 f x (b ρ s) := rfl
@[simp] theorem bin1_exc {f : D → D → Sto → Rs D} {b : MD D} {ρ : Ro} {q : Nat} {ds : List D} {s : Sto} : bin1 f b ρ (.exc q ds s) = .exc q ds s := rfl
@[simp] theorem bin1_ite {f : D → D → Sto → Rs D} {b : MD D} {ρ : Ro} {x y : Rs D} : bin1 f b ρ (if c then x else y) = if c then bin1 f b ρ x else bin1 f b ρ y := by split <;> rfl
@[simp] theorem bin2_ok {f : D → D → Sto → Rs D} {s : Sto} {x y : D} : bin2 f x (.ok y s) = f x y s := rfl
@[simp] theorem bin2_exc {f : D → D → Sto → Rs D} {x : D} {q : Nat} {ds : List D} {s : Sto} : bin2 f x (.exc q ds s) = .exc q ds s := rfl
@[simp] theorem bin2_ite {f : D → D → Sto → Rs D} {x : D} {u v : Rs D} : bin2 f x (if c then u else v) = if c then bin2 f x u else bin2 f x v := by split <;> rfl
@[simp] theorem mC_e {d : D} {ρ : Ro} {s : Sto} : mC d ρ s = .ok d s := rfl
def var1 (s : Sto) : Option (Option D) → Rs D
  | some (some d) => .ok d s
  | _ => .bad
@[simp] theorem mVar_e {i : Nat} {ρ : Ro} {s : Sto} : mVar i ρ s = var1 s ρ[i]? := rfl
@[simp] theorem var1_some {s : Sto} {d : D} : var1 s (some (some d)) = .ok d s := rfl
@[simp] theorem mNil_e {ρ : Ro} {s : Sto} : mNil ρ s = .ok [] s := rfl
def cons1 (r : MD (List D)) (ρ : Ro) (a : Rs D) : Rs (List D) := a.bind fun x s => (r ρ s).bind fun xs s => .ok (x :: xs) s
def cons2 (x : D) (r : Rs (List D)) : Rs (List D) := r.bind fun xs s => .ok (x :: xs) s
@[simp] theorem mCons_e {a : MD D} {r : MD (List D)} {ρ : Ro} {s : Sto} : mCons a r ρ s = cons1 r ρ (a ρ s) := rfl
@[simp] theorem cons1_ok {r : MD (List D)} {ρ : Ro} {s : Sto} {x : D} : cons1 r ρ (.ok x s) = cons2 x (r ρ s) := rfl
@[simp] theorem cons1_ite {r : MD (List D)} {ρ : Ro} {x y : Rs D} : cons1 r ρ (if c then x else y) = if c then cons1 r ρ x else cons1 r ρ y := by split <;> rfl
@[simp] theorem cons1_exc {r : MD (List D)} {ρ : Ro} {q : Nat} {ds : List D} {s : Sto} : cons1 r ρ (.exc q ds s) = .exc q ds s := rfl
@[simp] theorem cons2_ok {x : D} {xs : List D} {s : Sto} : cons2 x (.ok xs s) = .ok (x :: xs) s := rfl
@[simp] theorem cons2_ite {x : D} {u v : Rs (List D)} : cons2 x (if c then u else v) = if c then cons2 x u else cons2 x v := by split <;> rfl
@[simp] theorem cons2_exc {x : D} {q : Nat} {ds : List D} {s : Sto} : cons2 x (.exc q ds s) = .exc q ds s := rfl
/-- a last step by a small function -/
def fin {α β : Type} (k : α → Sto → Rs β) (r : Rs α) : Rs β := r.bind k
@[simp] theorem fin_ok {α β : Type} {k : α → Sto → Rs β} {x : α} {s : Sto} : fin k (.ok x s) = k x s := rfl
@[simp] theorem fin_exc {α β : Type} {k : α → Sto → Rs β} {q : Nat} {ds : List D} {s : Sto} : fin k (.exc q ds s) = .exc q ds s := rfl
@[simp] theorem fin_ite {α β : Type} {k : α → Sto → Rs β} {x y : Rs α} : fin k (if c then x else y) = if c then fin k x else fin k y := by split <;> rfl
def kTup (ds : List D) (s : Sto) : Rs D := .ok (.tup ds) s
@[simp] theorem kTup_e {ds : List D} {s : Sto} : kTup ds s = .ok (.tup ds) s := rfl
@[simp] theorem mTup_e {ms : MD (List D)} {ρ : Ro} {s : Sto} : mTup ms ρ s = fin kTup (ms ρ s) := rfl
@[simp] theorem mLst_e {k : Bool} {ms : MD (List D)} {ρ : Ro} {s : Sto} : mLst k ms ρ s = fin (newL k) (ms ρ s) := rfl
@[simp] theorem mCallB_e {f : List D → Sto → Rs D} {ms : MD (List D)} {ρ : Ro} {s : Sto} : mCallB f ms ρ s = fin f (ms ρ s) := rfl
@[simp] theorem mIsi_e {t : String → Option Bool} {i : Nat → Option Bool} {a : MD D} {ρ : Ro} {s : Sto} : mIsi t i a ρ s = fin (isiD t i) (a ρ s) := rfl
def kCall (φ : List D → Sto → Rs D) (dds : List D) (ds : List D) (s : Sto) : Rs D := φ (ds ++ dds) s
@[simp] theorem kCall_e {φ : List D → Sto → Rs D} {dds ds : List D} {s : Sto} : kCall φ dds ds s = φ (ds ++ dds) s := rfl
@[simp] theorem mCall_e {φ : List D → Sto → Rs D} {dds : List D} {ms : MD (List D)} {ρ : Ro} {s : Sto} : mCall φ dds ms ρ s = fin (kCall φ dds) (ms ρ s) := rfl
def callK1 (φ : List D → Sto → Rs D) (g : List D → List D → List D) (mk : MD (List D)) (ρ : Ro) (r : Rs (List D)) : Rs D := r.bind fun ds s => (mk ρ s).bind fun es s => φ (g ds es) s
def kCallK (φ : List D → Sto → Rs D) (g : List D → List D → List D) (ds es : List D) (s : Sto) : Rs D := φ (g ds es) s
@[simp] theorem kCallK_e {φ : List D → Sto → Rs D} {g : List D → List D → List D} {ds es : List D} {s : Sto} : kCallK φ g ds es s = φ (g ds es) s := rfl
@[simp] theorem mCallK_e {φ : List D → Sto → Rs D} {g : List D → List D → List D} {ms mk : MD (List D)} {ρ : Ro} {s : Sto} : mCallK φ g ms mk ρ s = callK1 φ g mk ρ (ms ρ s) := rfl
@[simp] theorem callK1_ok {φ : List D → Sto → Rs D} {g : List D → List D → List D} {mk : MD (List D)} {ρ : Ro} {ds : List D} {s : Sto} : callK1 φ g mk ρ (.ok ds s) = fin (kCallK φ g ds) (mk ρ s) := rfl
def kNot (x : D) (s : Sto) : Rs D := (blD x s).bind fun b s => .ok (D.bl (!b)) s
@[simp] theorem kNot_e {b : Bool} {s : Sto} : kNot (.bl b) s = .ok (.bl (!b)) s := rfl
@[simp] theorem mNot_e {a : MD D} {ρ : Ro} {s : Sto} : mNot a ρ s = fin kNot (a ρ s) := rfl
@[simp] theorem blD_e {b : Bool} {s : Sto} : blD (.bl b) s = .ok b s := rfl
@[simp] theorem mTest_e {a : MD D} {ρ : Ro} {s : Sto} : mTest a ρ s = fin blD (a ρ s) := rfl
def kBl (x : D) (s : Sto) : Rs D := (blD x s).bind fun b s => .ok (D.bl b) s
@[simp] theorem kBl_e {b : Bool} {s : Sto} : kBl (.bl b) s = .ok (.bl b) s := rfl
def and1 (b : MD D) (ρ : Ro) (r : Rs D) : Rs D := r.bind fun x s => (blD x s).bind fun c s => if c = true then (b ρ s).bind fun y s => (blD y s).bind fun d s => .ok (D.bl d) s else .ok (D.bl false) s
def or1 (b : MD D) (ρ : Ro) (r : Rs D) : Rs D := r.bind fun x s => (blD x s).bind fun c s => if c = true then .ok (D.bl true) s else (b ρ s).bind fun y s => (blD y s).bind fun d s => .ok (D.bl d) s
@[simp] theorem mAnd_e {a b : MD D} {ρ : Ro} {s : Sto} : mAnd a b ρ s = and1 b ρ (a ρ s) := rfl
@[simp] theorem mOr_e {a b : MD D} {ρ : Ro} {s : Sto} : mOr a b ρ s = or1 b ρ (a ρ s) := rfl
@[simp] theorem and1_ok {b : MD D} {ρ : Ro} {k : Bool} {s : Sto} : and1 b ρ (.ok (.bl k) s) = if k = true then fin kBl (b ρ s) else .ok (.bl false) s := rfl
@[simp] theorem or1_ok {b : MD D} {ρ : Ro} {k : Bool} {s : Sto} : or1 b ρ (.ok (.bl k) s) = if k = true then .ok (.bl true) s else fin kBl (b ρ s) := rfl
@[simp] theorem and1_ite {b : MD D} {ρ : Ro} {x y : Rs D} : and1 b ρ (if c then x else y) = if c then and1 b ρ x else and1 b ρ y := by split <;> rfl
@[simp] theorem or1_ite {b : MD D} {ρ : Ro} {x y : Rs D} : or1 b ρ (if c then x else y) = if c then or1 b ρ x else or1 b ρ y := by split <;> rfl
def chain1 (f f' : D → D → Sto → Rs D) (b d : MD D) (ρ : Ro) (r : Rs D) : Rs D := r.bind fun x s => (b ρ s).bind fun y s => (f x y s).bind fun z s => (blD z s).bind fun k s => if k = true then (d ρ s).bind fun w s => f' y w s else .ok (D.bl false) s
def chain2 (f f' : D → D → Sto → Rs D) (d : MD D) (ρ : Ro) (x : D) (r : Rs D) : Rs D := r.bind fun y s => (f x y s).bind fun z s => (blD z s).bind fun k s => if k = true then (d ρ s).bind fun w s => f' y w s else .ok (D.bl false) s
def chain3 (f' : D → D → Sto → Rs D) (d : MD D) (ρ : Ro) (y : D) (r : Rs D) : Rs D := r.bind fun z s => (blD z s).bind fun k s => if k = true then (d ρ s).bind fun w s => f' y w s else .ok (D.bl false) s
@[simp] theorem mChain_e {f f' : D → D → Sto → Rs D} {a b d : MD D} {ρ : Ro} {s : Sto} : mChain f f' a b d ρ s = chain1 f f' b d ρ (a ρ s) := rfl
@[simp] theorem chain1_ok {f f' : D → D → Sto → Rs D} {b d : MD D} {ρ : Ro} {x : D} {s : Sto} : chain1 f f' b d ρ (.ok x s) = chain2 f f' d ρ x (b ρ s) := rfl
@[simp] theorem chain2_ok {f f' : D → D → Sto → Rs D} {d : MD D} {ρ : Ro} {x y : D} {s : Sto} : chain2 f f' d ρ x (.ok y s) = chain3 f' d ρ y (f x y s) := rfl
@[simp] theorem chain3_ok {f' : D → D → Sto → Rs D} {d : MD D} {ρ : Ro} {y : D} {k : Bool} {s : Sto} : chain3 f' d ρ y (.ok (.bl k) s) = if k = true then bin2 f' y (d ρ s) else .ok (.bl false) s := rfl
def kNeg (x : D) (s : Sto) : Rs D := match x with
  | .int i => .ok (D.int (-i)) s
  | _ => .bad
@[simp] theorem kNeg_e {i : Int} {s : Sto} : kNeg (.int i) s = .ok (.int (-i)) s := rfl
@[simp] theorem mNeg_e {a : MD D} {ρ : Ro} {s : Sto} : mNeg a ρ s = fin kNeg (a ρ s) := rfl
def kPart (x : D) (s : Sto) : Rs (Option Int) := match x with
  | .int i => .ok (some i) s
  | _ => .bad
@[simp] theorem kPart_e {i : Int} {s : Sto} : kPart (.int i) s = .ok (some i) s := rfl
@[simp] theorem mPart0_e {ρ : Ro} {s : Sto} : mPart0 ρ s = .ok none s := rfl
@[simp] theorem mPart_e {a : MD D} {ρ : Ro} {s : Sto} : mPart a ρ s = fin kPart (a ρ s) := rfl
def sl1 (k : Bool) (lo hi : MD (Option Int)) (ρ : Ro) (r : Rs D) : Rs D := r.bind fun x s => (lo ρ s).bind fun l s => (hi ρ s).bind fun h s => slD k l h x s
def sl2 (k : Bool) (x : D) (hi : MD (Option Int)) (ρ : Ro) (r : Rs (Option Int)) : Rs D := r.bind fun l s => (hi ρ s).bind fun h s => slD k l h x s
def sl3 (k : Bool) (x : D) (l : Option Int) (r : Rs (Option Int)) : Rs D := r.bind fun h s => slD k l h x s
@[simp] theorem mSl_e {k : Bool} {a : MD D} {lo hi : MD (Option Int)} {ρ : Ro} {s : Sto} : mSl k a lo hi ρ s = sl1 k lo hi ρ (a ρ s) := rfl
@[simp] theorem sl1_ok {k : Bool} {lo hi : MD (Option Int)} {ρ : Ro} {x : D} {s : Sto} : sl1 k lo hi ρ (.ok x s) = sl2 k x hi ρ (lo ρ s) := rfl
@[simp] theorem sl2_ok {k : Bool} {x : D} {hi : MD (Option Int)} {ρ : Ro} {l : Option Int} {s : Sto} : sl2 k x hi ρ (.ok l s) = sl3 k x l (hi ρ s) := rfl
@[simp] theorem sl3_ok {k : Bool} {x : D} {l h : Option Int} {s : Sto} : sl3 k x l (.ok h s) = slD k l h x s := rfl
def meth1 (disp : Nat → Option (List D → Sto → Rs D)) (dds : List D) (ms : MD (List D)) (ρ : Ro) (r : Rs D) : Rs D := r.bind fun x s => optD ((clsD x s).bind disp) fun φ => (ms ρ s).bind fun ds s => φ (x :: (ds ++ dds)) s
def meth2 (φ : Option (List D → Sto → Rs D)) (dds : List D) (x : D) (r : Rs (List D)) : Rs D := optD φ fun φ => r.bind fun ds s => φ (x :: (ds ++ dds)) s
@[simp] theorem mMeth_e {disp : Nat → Option (List D → Sto → Rs D)} {dds : List D} {o : MD D} {ms : MD (List D)} {ρ : Ro} {s : Sto} : mMeth disp dds o ms ρ s = meth1 disp dds ms ρ (o ρ s) := rfl
@[simp] theorem meth1_ok {disp : Nat → Option (List D → Sto → Rs D)} {dds : List D} {ms : MD (List D)} {ρ : Ro} {x : D} {s : Sto} : meth1 disp dds ms ρ (.ok x s) = meth2 ((clsD x s).bind disp) dds x (ms ρ s) := rfl
@[simp] theorem meth2_ok {φ : List D → Sto → Rs D} {dds ds : List D} {x : D} {s : Sto} : meth2 (some φ) dds x (.ok ds s) = φ (x :: (ds ++ dds)) s := rfl
def kFld (ix : Nat → Option Nat) (x : D) (s : Sto) : Rs D := optD (clsD x s) fun q => optD (ix q) fun k => fldD q k x s
@[simp] theorem kFld_e {ix : Nat → Option Nat} {x : D} {s : Sto} : kFld ix x s = optD (clsD x s) fun q => optD (ix q) fun k => fldD q k x s := rfl
@[simp] theorem mFldD_e {ix : Nat → Option Nat} {a : MD D} {ρ : Ro} {s : Sto} : mFldD ix a ρ s = fin (kFld ix) (a ρ s) := rfl
def bm1 (T : BT) (f : D → List D → Sto → Rs D) (ms : MD (List D)) (ρ : Ro) (r : Rs D) : Rs D := r.bind fun x s => if isTy T x s = true then (ms ρ s).bind fun ds s => f x ds s else .bad
@[simp] theorem mBM_e {T : BT} {f : D → List D → Sto → Rs D} {o : MD D} {ms : MD (List D)} {ρ : Ro} {s : Sto} : mBM T f o ms ρ s = bm1 T f ms ρ (o ρ s) := rfl
@[simp] theorem bm1_ok {T : BT} {f : D → List D → Sto → Rs D} {ms : MD (List D)} {ρ : Ro} {x : D} {s : Sto} : bm1 T f ms ρ (.ok x s) = if isTy T x s = true then fin (f x) (ms ρ s) else .bad := rfl
@[simp] theorem sNext_e {ρ : Ro} {s : Sto} : sNext ρ s = .ok (.nx ρ) s := rfl
@[simp] theorem sBreak_e {ρ : Ro} {s : Sto} : sBreak ρ s = .ok (.bk ρ) s := rfl
@[simp] theorem sCont_e {ρ : Ro} {s : Sto} : sCont ρ s = .ok (.ct ρ) s := rfl
@[simp] theorem sRetN_e {ρ : Ro} {s : Sto} : sRetN ρ s = .ok (.ret .non) s := rfl
def kRet (d : D) (s : Sto) : Rs Fl := .ok (.ret d) s
@[simp] theorem kRet_e {d : D} {s : Sto} : kRet d s = .ok (.ret d) s := rfl
@[simp] theorem sRet_e {m : MD D} {ρ : Ro} {s : Sto} : sRet m ρ s = fin kRet (m ρ s) := rfl
def kExpr (ρ : Ro) (_ : D) (s : Sto) : Rs Fl := .ok (.nx ρ) s
@[simp] theorem kExpr_e {ρ : Ro} {d : D} {s : Sto} : kExpr ρ d s = .ok (.nx ρ) s := rfl
@[simp] theorem sExpr_e {m : MD D} {ρ : Ro} {s : Sto} : sExpr m ρ s = fin (kExpr ρ) (m ρ s) := rfl
def seq1 (b : MD Fl) (r : Rs Fl) : Rs Fl := r.bind fun f s => match f with
  | .nx ρ => b ρ s
  | f => .ok f s
@[simp] theorem sSeq_e {a b : MD Fl} {ρ : Ro} {s : Sto} : sSeq a b ρ s = seq1 b (a ρ s) := rfl
@[simp] theorem seq1_nx {b : MD Fl} {ρ : Ro} {s : Sto} : seq1 b (.ok (.nx ρ) s) = b ρ s := rfl
@[simp] theorem seq1_ret {b : MD Fl} {d : D} {s : Sto} : seq1 b (.ok (.ret d) s) = .ok (.ret d) s := rfl
@[simp] theorem seq1_bk {b : MD Fl} {ρ : Ro} {s : Sto} : seq1 b (.ok (.bk ρ) s) = .ok (.bk ρ) s := rfl
@[simp] theorem seq1_ct {b : MD Fl} {ρ : Ro} {s : Sto} : seq1 b (.ok (.ct ρ) s) = .ok (.ct ρ) s := rfl
@[simp] theorem seq1_exc {b : MD Fl} {q : Nat} {ds : List D} {s : Sto} : seq1 b (.exc q ds s) = .exc q ds s := rfl
@[simp] theorem seq1_ite {b : MD Fl} {x y : Rs Fl} : seq1 b (if c then x else y) = if c then seq1 b x else seq1 b y := by split <;> rfl
def if1 (a b : MD Fl) (ρ : Ro) (r : Rs Bool) : Rs Fl := r.bind fun k s => if k = true then a ρ s else b ρ s
@[simp] theorem sIf_e {m : MD Bool} {a b : MD Fl} {ρ : Ro} {s : Sto} : sIf m a b ρ s = if1 a b ρ (m ρ s) := rfl
@[simp] theorem if1_ok {a b : MD Fl} {ρ : Ro} {k : Bool} {s : Sto} : if1 a b ρ (.ok k s) = if k = true then a ρ s else b ρ s := rfl
@[simp] theorem if1_exc {a b : MD Fl} {ρ : Ro} {q : Nat} {ds : List D} {s : Sto} : if1 a b ρ (.exc q ds s) = .exc q ds s := rfl
@[simp] theorem if1_ite {a b : MD Fl} {ρ : Ro} {x y : Rs Bool} : if1 a b ρ (if c then x else y) = if c then if1 a b ρ x else if1 a b ρ y := by split <;> rfl
def asg1 (t : D → MD Ro) (ρ : Ro) (r : Rs D) : Rs Fl := r.bind fun d s => (t d ρ s).bind fun ρ s => .ok (.nx ρ) s
def kNx (ρ : Ro) (s : Sto) : Rs Fl := .ok (.nx ρ) s
@[simp] theorem kNx_e {ρ : Ro} {s : Sto} : kNx ρ s = .ok (.nx ρ) s := rfl
@[simp] theorem sAsg_e {m : MD D} {t : D → MD Ro} {ρ : Ro} {s : Sto} : sAsg m t ρ s = asg1 t ρ (m ρ s) := rfl
@[simp] theorem asg1_ok {t : D → MD Ro} {ρ : Ro} {d : D} {s : Sto} : asg1 t ρ (.ok d s) = fin kNx (t d ρ s) := rfl
@[simp] theorem asg1_exc {t : D → MD Ro} {ρ : Ro} {q : Nat} {ds : List D} {s : Sto} : asg1 t ρ (.exc q ds s) = .exc q ds s := rfl
@[simp] theorem asg1_ite {t : D → MD Ro} {ρ : Ro} {x y : Rs D} : asg1 t ρ (if c then x else y) = if c then asg1 t ρ x else asg1 t ρ y := by split <;> rfl
@[simp] theorem tgName_e {i : Nat} {d : D} {ρ : Ro} {s : Sto} : tgName i d ρ s = .ok (ρ.set i (some d)) s := rfl
@[simp] theorem tgTup_e {ts : List D → MD Ro} {ds : List D} {ρ : Ro} {s : Sto} : tgTup ts (.tup ds) ρ s = ts ds ρ s := rfl
@[simp] theorem tgNil_e {ρ : Ro} {s : Sto} : tgNil [] ρ s = .ok ρ s := rfl
@[simp] theorem tgCons_e {t : D → MD Ro} {ts : List D → MD Ro} {d : D} {ds : List D} {ρ : Ro} {s : Sto} : tgCons t ts (d :: ds) ρ s = fin (fun ρ s => ts ds ρ s) (t d ρ s) := rfl
def ti1 (mi : MD D) (d : D) (ρ : Ro) (r : Rs D) : Rs Ro := r.bind fun o s => (mi ρ s).bind fun i s => optS (setLD o i d s) fun s => .ok ρ s
def kTi (d : D) (ρ : Ro) (o i : D) (s : Sto) : Rs Ro := optS (setLD o i d s) fun s => .ok ρ s
@[simp] theorem kTi_e {d : D} {ρ : Ro} {o i : D} {s : Sto} : kTi d ρ o i s = optS (setLD o i d s) fun s => .ok ρ s := rfl
@[simp] theorem tgIdx_e {mo mi : MD D} {d : D} {ρ : Ro} {s : Sto} : tgIdx mo mi d ρ s = ti1 mi d ρ (mo ρ s) := rfl
@[simp] theorem ti1_ok {mi : MD D} {d : D} {ρ : Ro} {o : D} {s : Sto} : ti1 mi d ρ (.ok o s) = fin (kTi d ρ o) (mi ρ s) := rfl
def kPar (i j : Nat) (ρ : Ro) (ds : List D) (s : Sto) : Rs Fl := match ds with
  | [d, e] => .ok (.nx ((ρ.set i (some d)).set j (some e))) s
  | _ => .bad
@[simp] theorem kPar_e {i j : Nat} {ρ : Ro} {d e : D} {s : Sto} : kPar i j ρ [d, e] s = .ok (.nx ((ρ.set i (some d)).set j (some e))) s := rfl
@[simp] theorem sPar_e {i j : Nat} {ms : MD (List D)} {ρ : Ro} {s : Sto} : sPar i j ms ρ s = fin (kPar i j ρ) (ms ρ s) := rfl
def aug1 (neg : Bool) (i : Nat) (m : MD D) (ρ : Ro) (r : Rs D) : Rs Fl := r.bind fun x s => (m ρ s).bind fun y s => (augD neg x y s).bind fun z s => .ok (.nx (ρ.set i (some z))) s
def kAug (neg : Bool) (i : Nat) (ρ : Ro) (x y : D) (s : Sto) : Rs Fl := (augD neg x y s).bind fun z s => .ok (.nx (ρ.set i (some z))) s
@[simp] theorem kAug_e {neg : Bool} {i : Nat} {ρ : Ro} {a b : Int} {s : Sto} : kAug neg i ρ (.int a) (.int b) s = .ok (.nx (ρ.set i (some (.int (if neg then a - b else a + b))))) s := rfl
@[simp] theorem sAug_e {neg : Bool} {i : Nat} {m : MD D} {ρ : Ro} {s : Sto} : sAug neg i m ρ s = aug1 neg i m ρ (mVar i ρ s) := rfl
@[simp] theorem aug1_ok {neg : Bool} {i : Nat} {m : MD D} {ρ : Ro} {x : D} {s : Sto} : aug1 neg i m ρ (.ok x s) = fin (kAug neg i ρ x) (m ρ s) := rfl
def setF1 (ix : Nat → Option Nat) (mo : MD D) (ρ : Ro) (r : Rs D) : Rs Fl := r.bind fun d s => (mo ρ s).bind fun x s => optS (clsD x s) fun q => optS (ix q) fun k => optS (setFD q k d x s) fun s => .ok (.nx ρ) s
def kSetF (ix : Nat → Option Nat) (ρ : Ro) (d x : D) (s : Sto) : Rs Fl := optS (clsD x s) fun q => optS (ix q) fun k => optS (setFD q k d x s) fun s => .ok (.nx ρ) s
@[simp] theorem kSetF_e {ix : Nat → Option Nat} {ρ : Ro} {d x : D} {s : Sto} : kSetF ix ρ d x s = optS (clsD x s) fun q => optS (ix q) fun k => optS (setFD q k d x s) fun s => .ok (.nx ρ) s := rfl
@[simp] theorem sSetFD_e {ix : Nat → Option Nat} {m mo : MD D} {ρ : Ro} {s : Sto} : sSetFD ix m mo ρ s = setF1 ix mo ρ (m ρ s) := rfl
@[simp] theorem setF1_ok {ix : Nat → Option Nat} {mo : MD D} {ρ : Ro} {d : D} {s : Sto} : setF1 ix mo ρ (.ok d s) = fin (kSetF ix ρ d) (mo ρ s) := rfl
def for1 (mt : D → MD Ro) (body : MD Fl) (ρ : Ro) (r : Rs Src) : Rs Fl := r.bind fun c s => forM mt body c.guard c.items ρ s
@[simp] theorem sFor_e {src : MD Src} {mt : D → MD Ro} {body : MD Fl} {ρ : Ro} {s : Sto} : sFor src mt body ρ s = for1 mt body ρ (src ρ s) := rfl
@[simp] theorem for1_ok {mt : D → MD Ro} {body : MD Fl} {ρ : Ro} {k : Src} {s : Sto} : for1 mt body ρ (.ok k s) = forM mt body k.guard k.items ρ s := rfl
def for2 (mt : D → MD Ro) (body : MD Fl) (gd : Sto → Bool) (ds : List D) (r : Rs Ro) : Rs Fl := r.bind fun ρ s => (body ρ s).bind fun f s => match f with
      | .nx ρ => forM mt body gd ds ρ s
      | .ct ρ => forM mt body gd ds ρ s
      | .bk ρ => .ok (.nx ρ) s
      | .ret d => .ok (.ret d) s
def for3 (mt : D → MD Ro) (body : MD Fl) (gd : Sto → Bool) (ds : List D) (r : Rs Fl) : Rs Fl := r.bind fun f s => match f with
      | .nx ρ => forM mt body gd ds ρ s
      | .ct ρ => forM mt body gd ds ρ s
      | .bk ρ => .ok (.nx ρ) s
      | .ret d => .ok (.ret d) s
@[simp] theorem forM_nil {mt : D → MD Ro} {body : MD Fl} {gd : Sto → Bool} {ρ : Ro} {s : Sto} : forM mt body gd [] ρ s = if gd s = true then .ok (.nx ρ) s else .bad := rfl
theorem forM_cons {mt : D → MD Ro} {body : MD Fl} {gd : Sto → Bool} {d : D} {ds : List D} {ρ : Ro} {s : Sto} : forM mt body gd (d :: ds) ρ s = if gd s = true then for2 mt body gd ds (mt d ρ s) else .bad := rfl
@[simp] theorem for2_ok {mt : D → MD Ro} {body : MD Fl} {gd : Sto → Bool} {ds : List D} {ρ : Ro} {s : Sto} : for2 mt body gd ds (.ok ρ s) = for3 mt body gd ds (body ρ s) := rfl
@[simp] theorem for3_nx {mt : D → MD Ro} {body : MD Fl} {gd : Sto → Bool} {ds : List D} {ρ : Ro} {s : Sto} : for3 mt body gd ds (.ok (.nx ρ) s) = forM mt body gd ds ρ s := rfl
@[simp] theorem for3_ct {mt : D → MD Ro} {body : MD Fl} {gd : Sto → Bool} {ds : List D} {ρ : Ro} {s : Sto} : for3 mt body gd ds (.ok (.ct ρ) s) = forM mt body gd ds ρ s := rfl
@[simp] theorem for3_bk {mt : D → MD Ro} {body : MD Fl} {gd : Sto → Bool} {ds : List D} {ρ : Ro} {s : Sto} : for3 mt body gd ds (.ok (.bk ρ) s) = .ok (.nx ρ) s := rfl
@[simp] theorem for3_ret {mt : D → MD Ro} {body : MD Fl} {gd : Sto → Bool} {ds : List D} {d : D} {s : Sto} : for3 mt body gd ds (.ok (.ret d) s) = .ok (.ret d) s := rfl
@[simp] theorem for3_exc {mt : D → MD Ro} {body : MD Fl} {gd : Sto → Bool} {ds : List D} {q : Nat} {es : List D} {s : Sto} : for3 mt body gd ds (.exc q es s) = .exc q es s := rfl
@[simp] theorem for3_ite {mt : D → MD Ro} {body : MD Fl} {gd : Sto → Bool} {ds : List D} {x y : Rs Fl} : for3 mt body gd ds (if c then x else y) = if c then for3 mt body gd ds x else for3 mt body gd ds y := by split <;> rfl
/-- a loop whose turns all go on: an invariant by the number of turns done -/
theorem forM_inv {mt : D → MD Ro} {body : MD Fl} {gd : Sto → Bool} (I : Nat → Ro → Sto → Prop) (hg : ∀ i ρ s, I i ρ s → gd s = true) : ∀ (ds : List D) (i : Nat) (ρ : Ro) (s : Sto), I i ρ s →
    (∀ j d ρ s, ds[j]? = some d → I (i + j) ρ s → ∃ ρ1 s1 ρ2 s2, mt d ρ s = .ok ρ1 s1 ∧ (body ρ1 s1 = .ok (.nx ρ2) s2 ∨ body ρ1 s1 = .ok (.ct ρ2) s2) ∧ I (i + j + 1) ρ2 s2) →
    ∃ ρ2 s2, forM mt body gd ds ρ s = .ok (.nx ρ2) s2 ∧ I (i + ds.length) ρ2 s2
  | [], i, ρ, s, h, _ => ⟨ρ, s, by rw [forM_nil, if_pos (hg _ _ _ h)], h⟩
  | d :: ds, i, ρ, s, h, step => by
    obtain ⟨ρ1, s1, ρ2, s2, e1, e2, h2⟩ := step 0 d ρ s rfl h
    obtain ⟨ρ3, s3, e3, h3⟩ := forM_inv I hg ds (i + 1) ρ2 s2 h2 fun j d' ρ' s' hj hI => by
      have := step (j + 1) d' ρ' s' (by simpa using hj) (by rw [show i + (j + 1) = i + 1 + j by omega]; exact hI)
      rw [show i + (j + 1) + 1 = i + 1 + j + 1 by omega] at this
      exact this
    refine ⟨ρ3, s3, ?_, by rw [List.length_cons, show i + (ds.length + 1) = i + 1 + ds.length by omega]; exact h3⟩
    rw [forM_cons, if_pos (hg _ _ _ h), e1, for2_ok]
    rcases e2 with e2 | e2 <;> (rw [e2]; exact e3)
@[simp] theorem mSrc_e {m : MD D} {ρ : Ro} {s : Sto} : mSrc m ρ s = fin (fun x s => optS (srcOf x s) fun c => .ok c s) (m ρ s) := rfl
@[simp] theorem srcOf_tup {ds : List D} {s : Sto} : srcOf (.tup ds) s = some ⟨ds, fun _ => true⟩ := rfl
@[simp] theorem srcOf_lst {ds : List D} {s : Sto} : srcOf (.lst ds) s = some ⟨ds, fun s => deqO (asL (.lst ds) s) ds⟩ := rfl
@[simp] theorem srcOf_frz {ds : List D} {s : Sto} : srcOf (.frz ds) s = some ⟨ds, fun s => deqO (asL (.frz ds) s) ds⟩ := rfl
@[simp] theorem srcOf_ref {n : Nat} {s : Sto} : srcOf (.ref n) s = (cellL s[n]?).map fun ds => ⟨ds, fun s => deqO (cellL s[n]?) ds⟩ := rfl
@[simp] theorem srcOf_str {z : Str} {s : Sto} : srcOf (.str z) s = some ⟨z.cps.toList.map fun c => .str ⟨#[c]⟩, fun _ => true⟩ := rfl
@[simp] theorem mRng_e {ms : MD (List D)} {ρ : Ro} {s : Sto} : mRng ms ρ s = fin rngD (ms ρ s) := rfl
@[simp] theorem mRev_e {m : MD D} {ρ : Ro} {s : Sto} : mRev m ρ s = fin (fun x s => optS (revD x s) fun c => .ok c s) (m ρ s) := rfl
def kZip (ds : List D) (s : Sto) : Rs Src := match ds with
  | [x, y] => optS (zipD x y s) fun c => .ok c s
  | _ => .bad
@[simp] theorem kZip_e {x y : D} {s : Sto} : kZip [x, y] s = optS (zipD x y s) fun c => .ok c s := rfl
@[simp] theorem mZip_e {ms : MD (List D)} {ρ : Ro} {s : Sto} : mZip ms ρ s = fin kZip (ms ρ s) := rfl
@[simp] theorem zipD_tup {ds es : List D} {s : Sto} : zipD (.tup ds) (.tup es) s = some ⟨zipItems ds es, fun _ => true⟩ := rfl
def kEnum (ds : List D) (s : Sto) : Rs Src := match ds with
  | [x] => optS (enumD x s) fun c => .ok c s
  | _ => .bad
@[simp] theorem kEnum_e {x : D} {s : Sto} : kEnum [x] s = optS (enumD x s) fun c => .ok c s := rfl
@[simp] theorem mEnum_e {ms : MD (List D)} {ρ : Ro} {s : Sto} : mEnum ms ρ s = fin kEnum (ms ρ s) := rfl
def lc0 (k : Bool) (vs : List Nat) (mt : D → MD Ro) (tt : MD Bool) (te : MD D) (ρ : Ro) (r : Rs Src) : Rs D := r.bind fun q s => (lcM mt tt te q.guard q.items (wipeD ρ vs) s).bind (lcEnd k)
@[simp] theorem mLc_e {k : Bool} {vs : List Nat} {src : MD Src} {mt : D → MD Ro} {tt : MD Bool} {te : MD D} {ρ : Ro} {s : Sto} : mLc k vs src mt tt te ρ s = lc0 k vs mt tt te ρ (src ρ s) := rfl
@[simp] theorem lc0_ok {k : Bool} {vs : List Nat} {mt : D → MD Ro} {tt : MD Bool} {te : MD D} {ρ : Ro} {q : Src} {s : Sto} : lc0 k vs mt tt te ρ (.ok q s) = fin (lcEnd k) (lcM mt tt te q.guard q.items (wipeD ρ vs) s) := rfl
@[simp] theorem lcEnd_e {k : Bool} {ds : List D} {s : Sto} : lcEnd k ds s = if ds.length ≤ sizeLine then newL k ds s else .bad := rfl
def lc2 (mt : D → MD Ro) (tt : MD Bool) (te : MD D) (gd : Sto → Bool) (ds : List D) (ρ : Ro) (r : Rs Ro) : Rs (List D) := (noEx r).bind fun ρ2 s => (noEx (tt ρ2 s)).bind fun b s => if b = true then (noEx (te ρ2 s)).bind fun y s => (lcM mt tt te gd ds ρ s).bind fun ys s => .ok (y :: ys) s else lcM mt tt te gd ds ρ s
def lc3 (mt : D → MD Ro) (tt : MD Bool) (te : MD D) (gd : Sto → Bool) (ds : List D) (ρ ρ2 : Ro) (r : Rs Bool) : Rs (List D) := (noEx r).bind fun b s => if b = true then (noEx (te ρ2 s)).bind fun y s => (lcM mt tt te gd ds ρ s).bind fun ys s => .ok (y :: ys) s else lcM mt tt te gd ds ρ s
def lc4 (mt : D → MD Ro) (tt : MD Bool) (te : MD D) (gd : Sto → Bool) (ds : List D) (ρ : Ro) (r : Rs D) : Rs (List D) := (noEx r).bind fun y s => (lcM mt tt te gd ds ρ s).bind fun ys s => .ok (y :: ys) s
@[simp] theorem lcM_nil {mt : D → MD Ro} {tt : MD Bool} {te : MD D} {gd : Sto → Bool} {ρ : Ro} {s : Sto} : lcM mt tt te gd [] ρ s = if gd s = true then .ok [] s else .bad := rfl
theorem lcM_cons {mt : D → MD Ro} {tt : MD Bool} {te : MD D} {gd : Sto → Bool} {d : D} {ds : List D} {ρ : Ro} {s : Sto} : lcM mt tt te gd (d :: ds) ρ s = if gd s = true then lc2 mt tt te gd ds ρ (mt d ρ s) else .bad := rfl
@[simp] theorem lc2_ok {mt : D → MD Ro} {tt : MD Bool} {te : MD D} {gd : Sto → Bool} {ds : List D} {ρ ρ2 : Ro} {s : Sto} : lc2 mt tt te gd ds ρ (.ok ρ2 s) = lc3 mt tt te gd ds ρ ρ2 (tt ρ2 s) := rfl
@[simp] theorem lc3_ok {mt : D → MD Ro} {tt : MD Bool} {te : MD D} {gd : Sto → Bool} {ds : List D} {ρ ρ2 : Ro} {b : Bool} {s : Sto} : lc3 mt tt te gd ds ρ ρ2 (.ok b s) = if b = true then lc4 mt tt te gd ds ρ (te ρ2 s) else lcM mt tt te gd ds ρ s := rfl
@[simp] theorem lc4_ok {mt : D → MD Ro} {tt : MD Bool} {te : MD D} {gd : Sto → Bool} {ds : List D} {ρ : Ro} {y : D} {s : Sto} : lc4 mt tt te gd ds ρ (.ok y s) = cons2 y (lcM mt tt te gd ds ρ s) := rfl
@[simp] theorem mLstRev_e {k : Bool} {a : MD D} {ρ : Ro} {s : Sto} : mLstRev k a ρ s = fin (kLstRev k) (a ρ s) := rfl
@[simp] theorem mLstRg_e {k : Bool} {a : MD D} {ρ : Ro} {s : Sto} : mLstRg k a ρ s = fin (kLstRg k) (a ρ s) := rfl
@[simp] theorem mYes_e {ρ : Ro} {s : Sto} : mYes ρ s = .ok true s := rfl
/-- [f x for x in ds]: nothing is tested -/
theorem lcM_map {mt : D → MD Ro} {te : MD D} {gd : Sto → Bool} {ρ : Ro} {s : Sto} (f : D → D) (hg : gd s = true) : ∀ (ds : List D), (∀ d ∈ ds, ∃ ρ2, mt d ρ s = .ok ρ2 s ∧ te ρ2 s = .ok (f d) s) → lcM mt mYes te gd ds ρ s = .ok (ds.map f) s
  | [], _ => by rw [lcM_nil, if_pos hg]; rfl
  | d :: ds, h => by
    obtain ⟨ρ2, e1, e2⟩ := h d List.mem_cons_self
    rw [lcM_cons, if_pos hg, e1, lc2_ok, mYes_e, lc3_ok, if_pos rfl, e2, lc4_ok, lcM_map f hg ds fun d' hd => h d' (List.mem_cons_of_mem _ hd)]
    rfl
/-- [f x for x in ds if t x] -/
theorem lcM_filter {mt : D → MD Ro} {tt : MD Bool} {te : MD D} {gd : Sto → Bool} {ρ : Ro} {s : Sto} (t : D → Bool) (f : D → D) (hg : gd s = true) : ∀ (ds : List D), (∀ d ∈ ds, ∃ ρ2, mt d ρ s = .ok ρ2 s ∧ tt ρ2 s = .ok (t d) s ∧ (t d = true → te ρ2 s = .ok (f d) s)) → lcM mt tt te gd ds ρ s = .ok ((ds.filter t).map f) s
  | [], _ => by rw [lcM_nil, if_pos hg]; rfl
  | d :: ds, h => by
    obtain ⟨ρ2, e1, e2, e3⟩ := h d List.mem_cons_self
    rw [lcM_cons, if_pos hg, e1, lc2_ok, e2, lc3_ok]
    have ih := lcM_filter t f hg ds fun d' hd => h d' (List.mem_cons_of_mem _ hd)
    by_cases q : t d = true
    · rw [if_pos q, e3 q, lc4_ok, ih, List.filter_cons_of_pos q]; rfl
    · rw [if_neg q, ih, List.filter_cons_of_neg q]
def callE (r : Rs Fl) : Rs D := r.bind fun f s => match f with
  | .nx _ => .ok .non s
  | .ret d => .ok d s
  | _ => .bad
@[simp] theorem callM_e {n : Nat} {m : MD Fl} {ds : List D} {s : Sto} : callM n m ds s = callE (m (ds.map some ++ List.replicate (n - ds.length) none) s) := rfl
@[simp] theorem callE_nx {ρ : Ro} {s : Sto} : callE (.ok (.nx ρ) s) = .ok .non s := rfl
@[simp] theorem callE_ret {d : D} {s : Sto} : callE (.ok (.ret d) s) = .ok d s := rfl
@[simp] theorem callE_exc {q : Nat} {ds : List D} {s : Sto} : callE (.exc q ds s) = .exc q ds s := rfl
@[simp] theorem callE_ite {x y : Rs Fl} : callE (if c then x else y) = if c then callE x else callE y := by split <;> rfl
theorem frzR_ok {s s' : Sto} {d d' : D} (h : frzD s.length s' 20 d = some d') (hs : s'.take s.length = s) : frzR s (.ok d s') = .ok d' s := by
  unfold frzR
  simp only [h, hs, Sto.beq_refl, if_true]
@[simp] theorem addD_int {k : Bool} {i j : Int} {s : Sto} : addD k (.int i) (.int j) s = .ok (.int (i + j)) s := rfl
@[simp] theorem addD_str {k : Bool} {i j : Str} {s : Sto} : addD k (.str i) (.str j) s = if i.length + j.length ≤ sizeLine then .ok (.str (i ++ j)) s else .bad := rfl
@[simp] theorem addD_tup {k : Bool} {a b : List D} {s : Sto} : addD k (.tup a) (.tup b) s = if a.length + b.length ≤ sizeLine then .ok (.tup (a ++ b)) s else .bad := rfl
@[simp] theorem subD_int {i j : Int} {s : Sto} : subD (.int i) (.int j) s = .ok (.int (i - j)) s := rfl
theorem pow_up {n a b : Nat} (h : n < 2 ^ a) (hab : a ≤ b) : n < 2 ^ b := Nat.lt_of_lt_of_le h (Nat.pow_le_pow_right (by decide) hab)
@[simp] theorem rngS_g {a b : Int} {n : Nat} : (rngS a b n).guard = fun _ => true := rfl
theorem small_up {n : Nat} (h : n < 18446744073709551616) : n < 2 ^ 8000 := Nat.lt_of_lt_of_le (show n < 2 ^ 64 from h) (Nat.pow_le_pow_right (by decide) (by decide))
@[simp] theorem mul_r {i j : Int} {s : Sto} (h : j.natAbs < 18446744073709551616) : mulD (.int i) (.int j) s = .ok (.int (i * j)) s := by
  show (if MulOk i j then _ else _) = _
  rw [if_pos (.inr (.inl (show j.natAbs < 2 ^ 64 from h)))]
@[simp] theorem mul_l {i j : Int} {s : Sto} (h : i.natAbs < 18446744073709551616) : mulD (.int i) (.int j) s = .ok (.int (i * j)) s := by
  show (if MulOk i j then _ else _) = _
  rw [if_pos (.inl (show i.natAbs < 2 ^ 64 from h))]
theorem mul_big {i j : Int} {s : Sto} (h : i.natAbs < 2 ^ 4000) (h2 : j.natAbs < 2 ^ 4000) : mulD (.int i) (.int j) s = .ok (.int (i * j)) s := by
  show (if MulOk i j then _ else _) = _
  rw [if_pos (.inr (.inr ⟨h, h2⟩))]
@[simp] theorem div_ok {i j : Int} {s : Sto} (h : 0 < j) (h2 : j.natAbs < 18446744073709551616) : divD (.int i) (.int j) s = .ok (.int (i / j)) s := by
  show (if DivOk i j then _ else _) = _
  rw [if_pos ⟨h, small_up h2⟩]
theorem div_big {i j : Int} {s : Sto} (h : 0 < j) (h2 : j.natAbs < 2 ^ 8000) : divD (.int i) (.int j) s = .ok (.int (i / j)) s := by
  show (if DivOk i j then _ else _) = _
  rw [if_pos ⟨h, h2⟩]
@[simp] theorem mod_ok {i j : Int} {s : Sto} (h : 0 < j) : modD (.int i) (.int j) s = .ok (.int (i % j)) s := by
  show (if ModOk i j then _ else _) = _
  rw [if_pos (show ModOk i j from h)]
@[simp] theorem pow_ok {i j : Int} {s : Sto} (h : 0 ≤ j) (h1 : j ≤ 1000000) (h2 : i.natAbs < 18446744073709551616) : powD (.int i) (.int j) s = .ok (.int (i ^ j.toNat)) s := by
  show (if PowOk i j then _ else _) = _
  rw [if_pos ⟨h, h1, show i.natAbs < 2 ^ 64 from h2⟩]
@[simp] theorem sizeLine_e : sizeLine = 16777216 := rfl
@[simp] theorem lt_int {i j : Int} {s : Sto} : Cm.sem .lt (.int i) (.int j) s = .ok (.bl (decide (i < j))) s := rfl
@[simp] theorem le_int {i j : Int} {s : Sto} : Cm.sem .le (.int i) (.int j) s = .ok (.bl (decide (i ≤ j))) s := rfl
@[simp] theorem gt_int {i j : Int} {s : Sto} : Cm.sem .gt (.int i) (.int j) s = .ok (.bl (decide (j < i))) s := rfl
@[simp] theorem ge_int {i j : Int} {s : Sto} : Cm.sem .ge (.int i) (.int j) s = .ok (.bl (decide (j ≤ i))) s := rfl
@[simp] theorem eq_int {i j : Int} {s : Sto} : Cm.sem .eq (.int i) (.int j) s = .ok (.bl (decide (i = j))) s := rfl
@[simp] theorem ne_int {i j : Int} {s : Sto} : Cm.sem .ne (.int i) (.int j) s = .ok (.bl (!decide (i = j))) s := rfl
@[simp] theorem eq_str {i j : Str} {s : Sto} : Cm.sem .eq (.str i) (.str j) s = .ok (.bl (decide (i = j))) s := rfl
@[simp] theorem ne_str {i j : Str} {s : Sto} : Cm.sem .ne (.str i) (.str j) s = .ok (.bl (!decide (i = j))) s := rfl
@[simp] theorem is_non {x : D} {s : Sto} : Cm.sem .is_ x .non s = .ok (.bl (isNon x)) s := rfl
@[simp] theorem nis_non {x : D} {s : Sto} : Cm.sem .nis x .non s = .ok (.bl (!isNon x)) s := rfl
@[simp] theorem isNon_non : isNon .non = true := rfl
@[simp] theorem isNon_lst {ds : List D} : isNon (.lst ds) = false := rfl
@[simp] theorem isNon_int {i : Int} : isNon (.int i) = false := rfl
@[simp] theorem isNon_ref {i : Nat} : isNon (.ref i) = false := rfl
@[simp] theorem isNon_tup {ds : List D} : isNon (.tup ds) = false := rfl
@[simp] theorem idx_tup {ds : List D} {i : Int} {s : Sto} : idxD (.tup ds) (.int i) s = optD (atI ds i) fun d => .ok d s := rfl
@[simp] theorem idx_lst {ds : List D} {i : Int} {s : Sto} : idxD (.lst ds) (.int i) s = optD (atI ds i) fun d => .ok d s := rfl
@[simp] theorem idx_frz {ds : List D} {i : Int} {s : Sto} : idxD (.frz ds) (.int i) s = optD (atI ds i) fun d => .ok d s := rfl
def optE {α : Type} (o : Option α) (k : α → Rs D) (b : Rs D) : Rs D := match o with
  | some x => k x
  | none => b
@[simp] theorem optE_some {α : Type} {x : α} {k : α → Rs D} {b : Rs D} : optE (some x) k b = k x := rfl
@[simp] theorem optE_none {α : Type} {k : α → Rs D} {b : Rs D} : optE none k b = b := rfl
@[simp] theorem idx_ref {n : Nat} {i : Int} {s : Sto} : idxD (.ref n) (.int i) s = optE (cellL s[n]?) (fun ds => optD (atI ds i) fun d => .ok d s) (dIx (.ref n) (.int i) s) := by
  show (match asL (.ref n) s, D.int i with
    | some ds, .int i => optD (atI ds i) fun d => .ok d s
    | _, y => dIx (.ref n) y s) = _
  show (match cellL s[n]?, D.int i with
    | some ds, .int i => optD (atI ds i) fun d => .ok d s
    | _, y => dIx (.ref n) y s) = _
  cases cellL s[n]? <;> rfl
@[simp] theorem idx_kstr {n : Nat} {z : Str} {s : Sto} : idxD (.ref n) (.str z) s = dIx (.ref n) (.str z) s := by
  show (match cellL s[n]?, D.str z with
    | some ds, .int i => optD (atI ds i) fun d => .ok d s
    | _, y => dIx (.ref n) y s) = _
  cases cellL s[n]? <;> rfl
@[simp] theorem idx_ktup {n : Nat} {ks : List D} {s : Sto} : idxD (.ref n) (.tup ks) s = dIx (.ref n) (.tup ks) s := by
  show (match cellL s[n]?, D.tup ks with
    | some ds, .int i => optD (atI ds i) fun d => .ok d s
    | _, y => dIx (.ref n) y s) = _
  cases cellL s[n]? <;> rfl
@[simp] theorem sl_ref {k : Bool} {l h : Option Int} {n : Nat} {s : Sto} : slD k l h (.ref n) s = optD (cellL s[n]?) fun ds => newL k (cutD ds l h) s := rfl
def rs1 (c : Bool) (r : Rs D) : Rs D := r.bind fun x s => optD (asL x s) fun ds => newL c ds.reverse s
@[simp] theorem mRevSl_e {c : Bool} {m : MD D} {ρ : Ro} {s : Sto} : mRevSl c m ρ s = rs1 c (m ρ s) := rfl
@[simp] theorem rs1_ok {c : Bool} {x : D} {s : Sto} : rs1 c (.ok x s) = optD (asL x s) fun ds => newL c ds.reverse s := rfl
theorem dIx_e {x y : D} {s : Sto} {d : D} (h : dgetO x y s = some (some d)) : dIx x y s = .ok d s := by unfold dIx; rw [h]
@[simp] theorem keyK_str {z : Str} : keyK (.str z) = some (.inr z) := rfl
@[simp] theorem keyK_int {i : Int} : keyK (.int i) = some (.inl i) := rfl
theorem dget_K {n : Nat} {y : D} {s : Sto} {kvs : List (Key × D)} {k : Key} (h : s[n]? = some (.dK kvs)) (hk : keyK y = some k) : dgetO (.ref n) y s = some (vAt kvs k) := by
  show (match s[n]? with | some (.dK kvs) => (keyK y).map fun k => vAt kvs k | some (.dT kvs) => (keyT y).map fun k => vAt kvs k | some (.fK kvs) => (keyK y).map fun k => vAt kvs k | some (.fT kvs) => (keyT y).map fun k => vAt kvs k | _ => none) = _
  rw [h]; simp only [hk]; rfl
theorem dget_fK {n : Nat} {y : D} {s : Sto} {kvs : List (Key × D)} {k : Key} (h : s[n]? = some (.fK kvs)) (hk : keyK y = some k) : dgetO (.ref n) y s = some (vAt kvs k) := by
  show (match s[n]? with | some (.dK kvs) => (keyK y).map fun k => vAt kvs k | some (.dT kvs) => (keyT y).map fun k => vAt kvs k | some (.fK kvs) => (keyK y).map fun k => vAt kvs k | some (.fT kvs) => (keyT y).map fun k => vAt kvs k | _ => none) = _
  rw [h]; simp only [hk]; rfl
theorem dget_T {n : Nat} {y : D} {s : Sto} {kvs : List (List Key × D)} {k : List Key} (h : s[n]? = some (.dT kvs)) (hk : keyT y = some k) : dgetO (.ref n) y s = some (vAt kvs k) := by
  show (match s[n]? with | some (.dK kvs) => (keyK y).map fun k => vAt kvs k | some (.dT kvs) => (keyT y).map fun k => vAt kvs k | some (.fK kvs) => (keyK y).map fun k => vAt kvs k | some (.fT kvs) => (keyT y).map fun k => vAt kvs k | _ => none) = _
  rw [h]; simp only [hk]; rfl
theorem dget_fT {n : Nat} {y : D} {s : Sto} {kvs : List (List Key × D)} {k : List Key} (h : s[n]? = some (.fT kvs)) (hk : keyT y = some k) : dgetO (.ref n) y s = some (vAt kvs k) := by
  show (match s[n]? with | some (.dK kvs) => (keyK y).map fun k => vAt kvs k | some (.dT kvs) => (keyT y).map fun k => vAt kvs k | some (.fK kvs) => (keyK y).map fun k => vAt kvs k | some (.fT kvs) => (keyT y).map fun k => vAt kvs k | _ => none) = _
  rw [h]; simp only [hk]; rfl
theorem dput_K {n : Nat} {y d : D} {s : Sto} {kvs : List (Key × D)} {k : Key} (h : s[n]? = some (.dK kvs)) (hk : keyK y = some k) (hl : kvs.length < 16777216) : dputS (.ref n) y d s = some (s.set n (.dK (vPut kvs k d))) := by
  show (match s[n]? with | some (.dK kvs) => (keyK y).bind fun k => if kvs.length < sizeLine then some (s.set n (.dK (vPut kvs k d))) else none | some (.dT kvs) => (keyT y).bind fun k => if kvs.length < sizeLine then some (s.set n (.dT (vPut kvs k d))) else none | _ => none) = _
  rw [h]
  show ((keyK y).bind fun k => if kvs.length < sizeLine then some (s.set n (.dK (vPut kvs k d))) else none) = _
  rw [hk]
  exact if_pos (show kvs.length < sizeLine by rw [sizeLine_e]; exact hl)
theorem dput_T {n : Nat} {y d : D} {s : Sto} {kvs : List (List Key × D)} {k : List Key} (h : s[n]? = some (.dT kvs)) (hk : keyT y = some k) (hl : kvs.length < 16777216) : dputS (.ref n) y d s = some (s.set n (.dT (vPut kvs k d))) := by
  show (match s[n]? with | some (.dK kvs) => (keyK y).bind fun k => if kvs.length < sizeLine then some (s.set n (.dK (vPut kvs k d))) else none | some (.dT kvs) => (keyT y).bind fun k => if kvs.length < sizeLine then some (s.set n (.dT (vPut kvs k d))) else none | _ => none) = _
  rw [h]
  show ((keyT y).bind fun k => if kvs.length < sizeLine then some (s.set n (.dT (vPut kvs k d))) else none) = _
  rw [hk]
  exact if_pos (show kvs.length < sizeLine by rw [sizeLine_e]; exact hl)
theorem setLD_K {n : Nat} {y d : D} {s : Sto} {kvs : List (Key × D)} {k : Key} (h : s[n]? = some (.dK kvs)) (hk : keyK y = some k) (hl : kvs.length < 16777216) : setLD (.ref n) y d s = some (s.set n (.dK (vPut kvs k d))) := by
  have e : cellAtL (.ref n) s = none := by show (cellL s[n]?).map _ = _; rw [h]; rfl
  unfold setLD
  rw [e]
  exact dput_K h hk hl
theorem setLD_T {n : Nat} {y d : D} {s : Sto} {kvs : List (List Key × D)} {k : List Key} (h : s[n]? = some (.dT kvs)) (hk : keyT y = some k) (hl : kvs.length < 16777216) : setLD (.ref n) y d s = some (s.set n (.dT (vPut kvs k d))) := by
  have e : cellAtL (.ref n) s = none := by show (cellL s[n]?).map _ = _; rw [h]; rfl
  unfold setLD
  rw [e]
  exact dput_T h hk hl
theorem idx_str {z : Str} {i : Int} {s : Sto} : idxD (.str z) (.int i) s = if z.length ≤ sizeLine then optD (atI z.cps.toList i) fun c => .ok (D.str ⟨#[c]⟩) s else .bad := rfl
@[simp] theorem len_lst {ds : List D} {s : Sto} : lenD [.lst ds] s = .ok (.int ds.length) s := rfl
@[simp] theorem len_tup {ds : List D} {s : Sto} : lenD [.tup ds] s = .ok (.int ds.length) s := rfl
@[simp] theorem len_frz {ds : List D} {s : Sto} : lenD [.frz ds] s = .ok (.int ds.length) s := rfl
@[simp] theorem len_ref {n : Nat} {s : Sto} : lenD [.ref n] s = optE (cellL s[n]?) (fun ds => .ok (.int ds.length) s) (optD (dictN (.ref n) s) fun n => .ok (.int (n : Nat)) s) := by
  show (match cellL s[n]? with
    | some ds => Rs.ok (D.int ds.length) s
    | none => optD (dictN (.ref n) s) fun n => .ok (.int (n : Nat)) s) = _
  cases cellL s[n]? <;> rfl
@[simp] theorem bi_len : BI.sem .len = lenD := rfl
@[simp] theorem bi_str : BI.sem .str = strD := rfl
@[simp] theorem bi_int : BI.sem .int = intD1 := rfl
@[simp] theorem bi_abs : BI.sem .abs = absD := rfl
@[simp] theorem bi_max : BI.sem .max = maxD := rfl
@[simp] theorem bi_min : BI.sem .min = minD := rfl
@[simp] theorem bi_sum : BI.sem .sum = sumD := rfl
@[simp] theorem bi_list {k : Bool} : BI.sem (.list k) = listD k := rfl
@[simp] theorem bi_tuple : BI.sem .tuple = tupleD := rfl
@[simp] theorem bi_any : BI.sem .any = anyD := rfl
@[simp] theorem bi_all : BI.sem .all = allD := rfl
@[simp] theorem max_2 {i j : Int} {s : Sto} : maxD [.int i, .int j] s = .ok (.int (if j > i then j else i)) s := rfl
@[simp] theorem min_2 {i j : Int} {s : Sto} : minD [.int i, .int j] s = .ok (.int (if j < i then j else i)) s := rfl
@[simp] theorem tuple_lst {ds : List D} {s : Sto} : tupleD [.lst ds] s = .ok (.tup ds) s := rfl
@[simp] theorem tuple_ref {n : Nat} {s : Sto} : tupleD [.ref n] s = optD (cellL s[n]?) fun ds => .ok (.tup ds) s := rfl
@[simp] theorem list_lst {k : Bool} {ds : List D} {s : Sto} : listD k [.lst ds] s = newL k ds s := rfl
@[simp] theorem list_tup {k : Bool} {ds : List D} {s : Sto} : listD k [.tup ds] s = newL k ds s := rfl
@[simp] theorem list_frz {k : Bool} {ds : List D} {s : Sto} : listD k [.frz ds] s = newL k ds s := rfl
@[simp] theorem list_ref {k : Bool} {n : Nat} {s : Sto} : listD k [.ref n] s = optD (cellL s[n]?) fun ds => newL k ds s := rfl
@[simp] theorem sl_lst {k : Bool} {l h : Option Int} {ds : List D} {s : Sto} : slD k l h (.lst ds) s = newL k (cutD ds l h) s := rfl
@[simp] theorem sl_frz {k : Bool} {l h : Option Int} {ds : List D} {s : Sto} : slD k l h (.frz ds) s = newL k (cutD ds l h) s := rfl
@[simp] theorem sl_tup {k : Bool} {l h : Option Int} {ds : List D} {s : Sto} : slD k l h (.tup ds) s = .ok (.tup (cutD ds l h)) s := rfl
@[simp] theorem rng_1 {j : Int} {s : Sto} : rngD [.int j] s = if j.natAbs ≤ 1000000000 then .ok (rngS 0 1 j.toNat) s else .bad := rfl
@[simp] theorem rng_2 {i j : Int} {s : Sto} : rngD [.int i, .int j] s = if i.natAbs ≤ 1000000000 ∧ j.natAbs ≤ 1000000000 then .ok (rngS i 1 (j - i).toNat) s else .bad := rfl
@[simp] theorem rng_3 {i j k : Int} {s : Sto} : rngD [.int i, .int j, .int k] s = if 0 ≤ i ∧ i.natAbs ≤ 1000000000 ∧ 0 ≤ j ∧ j.natAbs ≤ 1000000000 ∧ 0 < k ∧ k.natAbs ≤ 1000000000 then .ok (rngS i k ((j - i + k - 1) / k).toNat) s else .bad := rfl
@[simp] theorem isi_int {t : String → Option Bool} {f : Nat → Option Bool} {i : Int} {s : Sto} : isiD t f (.int i) s = optD (t "int") fun b => .ok (.bl b) s := rfl
@[simp] theorem isi_bl {t : String → Option Bool} {f : Nat → Option Bool} {i : Bool} {s : Sto} : isiD t f (.bl i) s = optD (t "bool") fun b => .ok (.bl b) s := rfl
@[simp] theorem isi_str {t : String → Option Bool} {f : Nat → Option Bool} {i : Str} {s : Sto} : isiD t f (.str i) s = optD (t "str") fun b => .ok (.bl b) s := rfl
@[simp] theorem isi_lst {t : String → Option Bool} {f : Nat → Option Bool} {ds : List D} {s : Sto} : isiD t f (.lst ds) s = optD (t "list") fun b => .ok (.bl b) s := rfl
@[simp] theorem isi_frz {t : String → Option Bool} {f : Nat → Option Bool} {ds : List D} {s : Sto} : isiD t f (.frz ds) s = optD (t "list") fun b => .ok (.bl b) s := rfl
@[simp] theorem isi_tup {t : String → Option Bool} {f : Nat → Option Bool} {ds : List D} {s : Sto} : isiD t f (.tup ds) s = optD (t "tuple") fun b => .ok (.bl b) s := rfl
@[simp] theorem isi_non {t : String → Option Bool} {f : Nat → Option Bool} {s : Sto} : isiD t f .non s = optD (t "NoneType") fun b => .ok (.bl b) s := rfl
@[simp] theorem isi_obj {t : String → Option Bool} {f : Nat → Option Bool} {q : Nat} {ds : List D} {s : Sto} : isiD t f (.obj q ds) s = optD (f q) fun b => .ok (.bl b) s := rfl
@[simp] theorem RgIn_e {i : Int} : RgIn i = (-(2 ^ 62) ≤ i ∧ i < 2 ^ 62) := rfl
@[simp] theorem for1_ite {mt : D → MD Ro} {body : MD Fl} {ρ : Ro} {x y : Rs Src} : for1 mt body ρ (if c then x else y) = if c then for1 mt body ρ x else for1 mt body ρ y := by split <;> rfl
@[simp] theorem lc0_ite {k : Bool} {vs : List Nat} {mt : D → MD Ro} {tt : MD Bool} {te : MD D} {ρ : Ro} {x y : Rs Src} : lc0 k vs mt tt te ρ (if c then x else y) = if c then lc0 k vs mt tt te ρ x else lc0 k vs mt tt te ρ y := by split <;> rfl
@[simp] theorem sl1_ite {k : Bool} {lo hi : MD (Option Int)} {ρ : Ro} {x y : Rs D} : sl1 k lo hi ρ (if c then x else y) = if c then sl1 k lo hi ρ x else sl1 k lo hi ρ y := by split <;> rfl
@[simp] theorem meth1_ite {disp : Nat → Option (List D → Sto → Rs D)} {dds : List D} {ms : MD (List D)} {ρ : Ro} {x y : Rs D} : meth1 disp dds ms ρ (if c then x else y) = if c then meth1 disp dds ms ρ x else meth1 disp dds ms ρ y := by split <;> rfl
@[simp] theorem bm1_ite {T : BT} {f : D → List D → Sto → Rs D} {ms : MD (List D)} {ρ : Ro} {x y : Rs D} : bm1 T f ms ρ (if c then x else y) = if c then bm1 T f ms ρ x else bm1 T f ms ρ y := by split <;> rfl
@[simp] theorem aug1_ite {neg : Bool} {i : Nat} {m : MD D} {ρ : Ro} {x y : Rs D} : aug1 neg i m ρ (if c then x else y) = if c then aug1 neg i m ρ x else aug1 neg i m ρ y := by split <;> rfl
@[simp] theorem sForget_e {vs : List Nat} {m : MD Fl} {ρ : Ro} {s : Sto} : sForget vs m ρ s = m (wipeD ρ vs) s := rfl
def forK1 (keep : List Nat) (mt : D → MD Ro) (body : MD Fl) (ρ : Ro) (r : Rs Src) : Rs Fl := r.bind fun c s => if c.guard s then forKM keep mt body s c.items (keepR keep ρ) else .bad
@[simp] theorem sForK_e {keep : List Nat} {src : MD Src} {mt : D → MD Ro} {body : MD Fl} {ρ : Ro} {s : Sto} : sForK keep src mt body ρ s = forK1 keep mt body ρ (src ρ s) := rfl
@[simp] theorem forK1_ok {keep : List Nat} {mt : D → MD Ro} {body : MD Fl} {ρ : Ro} {k : Src} {s : Sto} : forK1 keep mt body ρ (.ok k s) = if k.guard s = true then forKM keep mt body s k.items (keepR keep ρ) else .bad := rfl
/-- every turn goes on: an invariant by the number of turns done -/
theorem forKM_inv {keep : List Nat} {mt : D → MD Ro} {body : MD Fl} {s1 : Sto} (I : Nat → Ro → Prop) : ∀ (ds : List D) (i : Nat) (ρ : Ro), I i ρ →
    (∀ j d ρ, ds[j]? = some d → I (i + j) ρ → clB d = true ∧ ∃ ρ1 s2 ρ2 s3, mt d ρ [] = .ok ρ1 s2 ∧ (body ρ1 s2 = .ok (.nx ρ2) s3 ∨ body ρ1 s2 = .ok (.ct ρ2) s3) ∧ I (i + j + 1) (keepR keep ρ2)) →
    ∃ ρ2, forKM keep mt body s1 ds ρ = .ok (.nx ρ2) s1 ∧ I (i + ds.length) ρ2
  | [], i, ρ, h, _ => ⟨ρ, rfl, h⟩
  | d :: ds, i, ρ, h, step => by
    obtain ⟨hc, ρ1, s2, ρ2, s3, e1, e2, h2⟩ := step 0 d ρ rfl h
    obtain ⟨ρ3, e3, h3⟩ := forKM_inv (keep := keep) (mt := mt) (body := body) (s1 := s1) I ds (i + 1) (keepR keep ρ2) h2 fun j d' ρ' hj hI => by
      have := step (j + 1) d' ρ' (by simpa using hj) (by rw [show i + (j + 1) = i + 1 + j by omega]; exact hI)
      rw [show i + (j + 1) + 1 = i + 1 + j + 1 by omega] at this
      exact this
    refine ⟨ρ3, ?_, by rw [List.length_cons, show i + (ds.length + 1) = i + 1 + ds.length by omega]; exact h3⟩
    unfold forKM
    rw [if_pos hc, e1]
    rcases e2 with e2 | e2 <;> (simp only [e2]; exact e3)
theorem keepR_nil {ρ : Ro} : keepR [] ρ = List.replicate ρ.length none := by
  apply List.ext_getElem?
  intro i
  unfold keepR
  rw [List.getElem?_map, List.getElem?_zipIdx, List.getElem?_replicate]
  by_cases h : i < ρ.length
  · simp [h]
  · simp [h]
@[simp] theorem clB_int {i : Int} : clB (.int i) = true := rfl
@[simp] theorem clB_str {i : Str} : clB (.str i) = true := rfl
@[simp] theorem clB_bl {i : Bool} : clB (.bl i) = true := rfl
end
end Mx
namespace Mx
open PySem L2
structure SlR (i : Nat) (c c' : D) (ρ ρ' : Ro) : Prop where
  at_ : ρ[i]? = some (some c)
  eq : ρ' = ρ.set i (some c')
def FlR (i : Nat) (c c' : D) : Rs Fl → Rs Fl → Prop
  | .bad, .bad => True
  | .exc q ds s, .exc q' ds' s' => q = q' ∧ ds = ds' ∧ s = s'
  | .ok (.nx ρ) s, .ok (.nx ρ') s' => SlR i c c' ρ ρ' ∧ s = s'
  | .ok (.bk ρ) s, .ok (.bk ρ') s' => SlR i c c' ρ ρ' ∧ s = s'
  | .ok (.ct ρ) s, .ok (.ct ρ') s' => SlR i c c' ρ ρ' ∧ s = s'
  | .ok (.ret d) s, .ok (.ret d') s' => d = d' ∧ s = s'
  | _, _ => False
def RoR (i : Nat) (c c' : D) : Rs Ro → Rs Ro → Prop
  | .bad, .bad => True
  | .exc q ds s, .exc q' ds' s' => q = q' ∧ ds = ds' ∧ s = s'
  | .ok ρ s, .ok ρ' s' => SlR i c c' ρ ρ' ∧ s = s'
  | _, _ => False
def SimE {γ : Type} (i : Nat) (c c' : D) (m : MD γ) : Prop := ∀ ρ ρ' s, SlR i c c' ρ ρ' → m ρ s = m ρ' s
def SimF (i : Nat) (c c' : D) (m : MD Fl) : Prop := ∀ ρ ρ' s, SlR i c c' ρ ρ' → FlR i c c' (m ρ s) (m ρ' s)
def SimT (i : Nat) (c c' : D) (t : D → MD Ro) : Prop := ∀ d ρ ρ' s, SlR i c c' ρ ρ' → RoR i c c' (t d ρ s) (t d ρ' s)
variable {γ δ : Type} {i : Nat} {c c' : D}
theorem sim_bind {m : MD γ} {k : γ → Sto → Rs δ} (h : SimE i c c' m) : SimE i c c' (fun ρ s => (m ρ s).bind k) := fun ρ ρ' s r => by show (m ρ s).bind k = (m ρ' s).bind k; rw [h ρ ρ' s r]
theorem sim_bind2 {m : MD γ} {k : γ → MD δ} (h : SimE i c c' m) (hk : ∀ x, SimE i c c' (k x)) : SimE i c c' (fun ρ s => (m ρ s).bind fun x s => k x ρ s) := fun ρ ρ' s r => by
  show ((m ρ s).bind fun x s => k x ρ s) = (m ρ' s).bind fun x s => k x ρ' s
  rw [h ρ ρ' s r]
  cases m ρ' s with
  | bad => rfl
  | exc _ _ _ => rfl
  | ok x s2 => exact hk x ρ ρ' s2 r
theorem sim_const {r : Sto → Rs γ} : SimE i c c' (fun _ s => r s) := fun _ _ _ _ => rfl
theorem sim_c {d : D} : SimE i c c' (mC d) := fun _ _ _ _ => rfl
theorem sim_var {j : Nat} (h : i ≠ j) : SimE i c c' (mVar j) := fun ρ ρ' s r => by
  unfold mVar
  rw [r.eq, List.getElem?_set_ne h]
theorem sim_nil : SimE i c c' mNil := fun _ _ _ _ => rfl
theorem sim_cons {a : MD D} {r : MD (List D)} (h : SimE i c c' a) (h2 : SimE i c c' r) : SimE i c c' (mCons a r) := sim_bind2 h fun x => sim_bind (k := fun xs s => .ok (x :: xs) s) h2
theorem sim_bin {f : D → D → Sto → Rs D} {a b : MD D} (h : SimE i c c' a) (h2 : SimE i c c' b) : SimE i c c' (mBin f a b) := sim_bind2 h fun x => sim_bind (k := fun y s => f x y s) h2
theorem sim_tup {ms : MD (List D)} (h : SimE i c c' ms) : SimE i c c' (mTup ms) := sim_bind h
theorem sim_lst {k : Bool} {ms : MD (List D)} (h : SimE i c c' ms) : SimE i c c' (mLst k ms) := sim_bind h
theorem sim_call {φ : List D → Sto → Rs D} {dds : List D} {ms : MD (List D)} (h : SimE i c c' ms) : SimE i c c' (mCall φ dds ms) := sim_bind h
theorem sim_callB {f : List D → Sto → Rs D} {ms : MD (List D)} (h : SimE i c c' ms) : SimE i c c' (mCallB f ms) := sim_bind h
theorem sim_isi {t : String → Option Bool} {f : Nat → Option Bool} {a : MD D} (h : SimE i c c' a) : SimE i c c' (mIsi t f a) := sim_bind h
theorem sim_test {a : MD D} (h : SimE i c c' a) : SimE i c c' (mTest a) := sim_bind h
theorem sim_not {a : MD D} (h : SimE i c c' a) : SimE i c c' (mNot a) := sim_bind h
theorem sim_fld {ix : Nat → Option Nat} {a : MD D} (h : SimE i c c' a) : SimE i c c' (mFldD ix a) := sim_bind h
theorem sim_and {a b : MD D} (h : SimE i c c' a) (h2 : SimE i c c' b) : SimE i c c' (mAnd a b) := fun ρ ρ' s r => by
  unfold mAnd
  rw [h ρ ρ' s r]
  cases a ρ' s with
  | bad => rfl
  | exc _ _ _ => rfl
  | ok x s2 => simp only [Rs.bind_ok]; congr 1; funext k s3; rw [h2 ρ ρ' s3 r]
theorem sim_or {a b : MD D} (h : SimE i c c' a) (h2 : SimE i c c' b) : SimE i c c' (mOr a b) := fun ρ ρ' s r => by
  unfold mOr
  rw [h ρ ρ' s r]
  cases a ρ' s with
  | bad => rfl
  | exc _ _ _ => rfl
  | ok x s2 => simp only [Rs.bind_ok]; congr 1; funext k s3; rw [h2 ρ ρ' s3 r]
theorem sim_meth {disp : Nat → Option (List D → Sto → Rs D)} {dds : List D} {o : MD D} {ms : MD (List D)} (h : SimE i c c' o) (h2 : SimE i c c' ms) : SimE i c c' (mMeth disp dds o ms) := fun ρ ρ' s r => by
  unfold mMeth
  rw [h ρ ρ' s r]
  cases o ρ' s with
  | bad => rfl
  | exc _ _ _ => rfl
  | ok x s2 => simp only [Rs.bind_ok]; congr 1; funext φ; rw [h2 ρ ρ' s2 r]
theorem sim_bm {T : BT} {f : D → List D → Sto → Rs D} {o : MD D} {ms : MD (List D)} (h : SimE i c c' o) (h2 : SimE i c c' ms) : SimE i c c' (mBM T f o ms) := fun ρ ρ' s r => by
  unfold mBM
  rw [h ρ ρ' s r]
  cases o ρ' s with
  | bad => rfl
  | exc _ _ _ => rfl
  | ok x s2 => simp only [Rs.bind_ok]; rw [h2 ρ ρ' s2 r]
/-- the slot read by a def that answers both alike -/
theorem sim_at {φ : List D → Sto → Rs D} {dds : List D} (h : ∀ s, φ ([c] ++ dds) s = φ ([c'] ++ dds) s) (hi : ∀ ρ ρ', SlR i c c' ρ ρ' → ρ'[i]? = some (some c')) : SimE i c c' (mCall φ dds (mCons (mVar i) mNil)) := fun ρ ρ' s r => by
  have e1 : mVar i ρ s = .ok c s := by unfold mVar; rw [r.at_]
  have e2 : mVar i ρ' s = .ok c' s := by unfold mVar; rw [hi ρ ρ' r]
  unfold mCall mCons mNil
  rw [e1, e2]
  exact h s
theorem SlR.at' {ρ ρ' : Ro} (r : SlR i c c' ρ ρ') : ρ'[i]? = some (some c') := by
  rw [r.eq, List.getElem?_set_self (List.getElem?_eq_some_iff.mp r.at_).1]
theorem SlR.set {ρ ρ' : Ro} {j : Nat} {x : Option D} (r : SlR i c c' ρ ρ') (h : i ≠ j) : SlR i c c' (ρ.set j x) (ρ'.set j x) :=
  ⟨by rw [List.getElem?_set_ne (Ne.symm h)]; exact r.at_, by rw [r.eq, List.set_comm _ _ h]⟩
theorem sim_tname {j : Nat} (h : i ≠ j) : SimT i c c' (tgName j) := fun d ρ ρ' s r => ⟨r.set h, rfl⟩
theorem flr_refl_ret {d : D} {s : Sto} : FlR i c c' (.ok (.ret d) s) (.ok (.ret d) s) := ⟨rfl, rfl⟩
theorem sim_ret {m : MD D} (h : SimE i c c' m) : SimF i c c' (sRet m) := fun ρ ρ' s r => by
  unfold sRet
  rw [h ρ ρ' s r]
  cases m ρ' s with
  | bad => trivial
  | exc _ _ _ => exact ⟨rfl, rfl, rfl⟩
  | ok x s2 => exact ⟨rfl, rfl⟩
theorem sim_next : SimF i c c' sNext := fun ρ ρ' s r => ⟨r, rfl⟩
theorem sim_expr {m : MD D} (h : SimE i c c' m) : SimF i c c' (sExpr m) := fun ρ ρ' s r => by
  unfold sExpr
  rw [h ρ ρ' s r]
  cases m ρ' s with
  | bad => trivial
  | exc _ _ _ => exact ⟨rfl, rfl, rfl⟩
  | ok x s2 => exact ⟨r, rfl⟩
theorem sim_asg {m : MD D} {t : D → MD Ro} (h : SimE i c c' m) (ht : SimT i c c' t) : SimF i c c' (sAsg m t) := fun ρ ρ' s r => by
  unfold sAsg
  rw [h ρ ρ' s r]
  cases m ρ' s with
  | bad => trivial
  | exc _ _ _ => exact ⟨rfl, rfl, rfl⟩
  | ok x s2 =>
    simp only [Rs.bind_ok]
    have q := ht x ρ ρ' s2 r
    cases e1 : t x ρ s2 <;> cases e2 : t x ρ' s2 <;> rw [e1, e2] at q <;> first | exact q.elim | exact q | exact ⟨q.1, q.2⟩
theorem sim_if {m : MD Bool} {a b : MD Fl} (h : SimE i c c' m) (ha : SimF i c c' a) (hb : SimF i c c' b) : SimF i c c' (sIf m a b) := fun ρ ρ' s r => by
  unfold sIf
  rw [h ρ ρ' s r]
  cases m ρ' s with
  | bad => trivial
  | exc _ _ _ => exact ⟨rfl, rfl, rfl⟩
  | ok k s2 =>
    simp only [Rs.bind_ok]
    cases k with
    | true => exact ha ρ ρ' s2 r
    | false => exact hb ρ ρ' s2 r
theorem sim_seq {a b : MD Fl} (ha : SimF i c c' a) (hb : SimF i c c' b) : SimF i c c' (sSeq a b) := fun ρ ρ' s r => by
  unfold sSeq
  have q := ha ρ ρ' s r
  cases e1 : a ρ s with
  | bad => cases e2 : a ρ' s <;> rw [e1, e2] at q <;> first | exact q.elim | trivial
  | exc _ _ _ => cases e2 : a ρ' s <;> rw [e1, e2] at q <;> first | exact q.elim | exact q
  | ok f s2 =>
    cases e2 : a ρ' s with
    | bad => rw [e1, e2] at q; cases f <;> exact q.elim
    | exc _ _ _ => rw [e1, e2] at q; cases f <;> exact q.elim
    | ok f' s3 =>
      rw [e1, e2] at q
      cases f <;> cases f' <;> first | exact q.elim | skip
      · obtain ⟨q1, rfl⟩ := q; exact hb _ _ s2 q1
      · exact q
      · exact q
      · exact q
theorem sim_callM {n : Nat} {m : MD Fl} (h : SimF i c c' m) {ds : List D} (hd : ds[i]? = some c) (s : Sto) : callM n m ds s = callM n m (ds.set i c') s := by
  have hl := (List.getElem?_eq_some_iff.mp hd).1
  have r : SlR i c c' (ds.map some ++ List.replicate (n - ds.length) none) ((ds.set i c').map some ++ List.replicate (n - (ds.set i c').length) none) := by
    refine ⟨by rw [List.getElem?_append_left (by simpa using hl), List.getElem?_map, hd]; rfl, ?_⟩
    rw [List.length_set, List.map_set, List.set_append_left _ _ (by simpa using hl)]
  have q := h _ _ s r
  unfold callM
  cases e1 : m (ds.map some ++ List.replicate (n - ds.length) none) s with
  | bad => cases e2 : m ((ds.set i c').map some ++ List.replicate (n - (ds.set i c').length) none) s <;> rw [e1, e2] at q <;> first | exact q.elim | rfl
  | exc _ _ _ =>
    cases e2 : m ((ds.set i c').map some ++ List.replicate (n - (ds.set i c').length) none) s <;> rw [e1, e2] at q <;> first | exact q.elim | skip
    obtain ⟨rfl, rfl, rfl⟩ := q; rfl
  | ok f s2 =>
    cases e2 : m ((ds.set i c').map some ++ List.replicate (n - (ds.set i c').length) none) s with
    | bad => rw [e1, e2] at q; cases f <;> exact q.elim
    | exc _ _ _ => rw [e1, e2] at q; cases f <;> exact q.elim
    | ok f' s3 =>
      rw [e1, e2] at q
      cases f <;> cases f' <;> first | exact q.elim | skip
      · obtain ⟨q1, rfl⟩ := q; rfl
      · obtain ⟨rfl, rfl⟩ := q; rfl
      · obtain ⟨q1, rfl⟩ := q; rfl
      · obtain ⟨q1, rfl⟩ := q; rfl
end Mx
namespace Mx
open PySem L2 TL
def okIs (r : Rs D) (d : D) : Bool := match r with
  | .ok x [] => D.beq x d
  | _ => false
theorem okIs_ok {r : Rs D} {d : D} (h : okIs r d = true) : r = .ok d [] := by
  cases r with
  | bad => cases h
  | exc _ _ _ => cases h
  | ok x s =>
    cases s with
    | nil => rw [D.beq_ok (show D.beq x d = true from h)]
    | cons _ _ => cases h
theorem pgD_ok {φ : List D → Sto → Rs D} {ds : List D} {s s1 : Sto} {d d' : D} (hn : nrBs ds = true) (h : φ ds [] = .ok d s1) (hf : frG s1 100 d = some d') : pgD φ ds s = .ok d' s := by
  unfold pgD
  rw [if_pos hn, h]
  simp only [pgR, hf]
theorem pgD_any {φ : List D → Sto → Rs D} {ds : List D} {d : D} (h : pgD φ ds [] = .ok d []) (s : Sto) : pgD φ ds s = .ok d s := by
  unfold pgD at h ⊢
  by_cases c : nrBs ds = true
  · rw [if_pos c] at h ⊢
    cases e : φ ds [] with
    | bad => rw [e] at h; cases h
    | exc a b s1 =>
      rw [e] at h
      unfold pgR at h
      cases q : frGs s1 100 b with
      | none => simp only [q] at h; cases h
      | some y => simp only [q] at h; cases h
    | ok x s1 =>
      rw [e] at h
      unfold pgR at h ⊢
      cases q : frG s1 100 x with
      | none => simp only [q] at h; cases h
      | some y => simp only [q] at h ⊢; cases h; rfl
  · rw [if_neg c] at h; cases h
theorem allSome_map {α β : Type} {f : α → Option β} {g : α → β} : ∀ {l : List α}, (∀ x ∈ l, f x = some (g x)) → allSome (l.map f) = some (l.map g)
  | [], _ => rfl
  | x :: l, h => by
    rw [List.map_cons, h x List.mem_cons_self]
    show (allSome (l.map f)).map _ = _
    rw [allSome_map fun y hy => h y (List.mem_cons_of_mem _ hy)]
    rfl
theorem allSome_ix {α β : Type} {f : α → Option β} : ∀ {l : List α} {m : List β}, l.length = m.length → (∀ (i : Nat) (x : α) (y : β), l[i]? = some x → m[i]? = some y → f x = some y) → allSome (l.map f) = some m
  | [], [], _, _ => rfl
  | x :: l, y :: m, h, k => by
    rw [List.map_cons, k 0 x y rfl rfl]
    show (allSome (l.map f)).map _ = _
    rw [allSome_ix (l := l) (m := m) (by simpa using h) fun i a b e1 e2 => k (i + 1) a b (by simpa using e1) (by simpa using e2)]
    rfl
@[simp] theorem nrB_int {i : Int} : nrB (.int i) = true := rfl
@[simp] theorem nrB_str {i : Str} : nrB (.str i) = true := rfl
@[simp] theorem nrB_bl {i : Bool} : nrB (.bl i) = true := rfl
@[simp] theorem nrB_non : nrB .non = true := rfl
@[simp] theorem nrB_lst {ds : List D} : nrB (.lst ds) = nrBs ds := rfl
@[simp] theorem nrB_frz {ds : List D} : nrB (.frz ds) = nrBs ds := rfl
@[simp] theorem nrB_tup {ds : List D} : nrB (.tup ds) = nrBs ds := rfl
@[simp] theorem nrB_exv {c : Nat} {ds : List D} : nrB (.exv c ds) = nrBs ds := rfl
@[simp] theorem nrB_obj {c : Nat} {ds : List D} : nrB (.obj c ds) = nrBs ds := rfl
@[simp] theorem nrBs_nil : nrBs [] = true := rfl
@[simp] theorem nrBs_cons {d : D} {ds : List D} : nrBs (d :: ds) = (nrB d && nrBs ds) := rfl
theorem nrBs_all : ∀ {ds : List D}, nrBs ds = true ↔ ∀ d ∈ ds, nrB d = true
  | [] => by simp
  | d :: ds => by rw [nrBs_cons, Bool.and_eq_true, nrBs_all, List.forall_mem_cons]
theorem nrBs_map {α : Type} {f : α → D} {l : List α} (h : ∀ x ∈ l, nrB (f x) = true) : nrBs (l.map f) = true := nrBs_all.mpr fun d hd => by
  obtain ⟨x, hx, rfl⟩ := List.mem_map.mp hd
  exact h x hx
@[simp] theorem nrBs_ints {l : List Int} : nrBs (l.map D.int) = true := nrBs_map fun _ _ => rfl
@[simp] theorem nrBs_strs {l : List Str} : nrBs (l.map D.str) = true := nrBs_map fun _ _ => rfl
/-- what is frozen and has no cells -/
theorem frG_list {α : Type} {s : Sto} {k : Nat} {f : α → D} {l : List α} (h : ∀ x ∈ l, frG s k (f x) = some (f x)) : allSome ((l.map f).map (frG s k)) = some (l.map f) := by
  rw [List.map_map]
  exact allSome_map (f := frG s k ∘ f) h
mutual
def dtB : Nat → D → Bool
  | _, .non => true
  | _, .bl _ => true
  | _, .int _ => true
  | _, .str _ => true
  | n + 1, .tup ds => dtBs n ds
  | n + 1, .lst ds => dtBs n ds
  | n + 1, .frz ds => dtBs n ds
  | _, _ => false
def dtBs : Nat → List D → Bool
  | _, [] => true
  | n, d :: ds => dtB n d && dtBs n ds
end
theorem toPys_dt {s : Sto} {n : Nat} (ih : ∀ d : D, dtB n d = true → ∃ p, toPy s n d = some p ∧ p.plain = true) : ∀ ds : List D, dtBs n ds = true → ∃ ps, allSome (ds.map (toPy s n)) = some ps ∧ PyData.plainAll ps = true
  | [], _ => ⟨[], rfl, rfl⟩
  | d :: ds, h => by
    have h' := Bool.and_eq_true_iff.mp (show (dtB n d && dtBs n ds) = true by rw [← h, dtBs])
    obtain ⟨p, e1, e2⟩ := ih d h'.1
    obtain ⟨ps, e3, e4⟩ := toPys_dt ih ds h'.2
    refine ⟨p :: ps, ?_, by rw [PyData.plainAll, e2, e4]; rfl⟩
    rw [List.map_cons, e1]
    show (allSome (ds.map (toPy s n))).map _ = _
    rw [e3]; rfl
theorem toPy_dt {s : Sto} : ∀ (n : Nat) (d : D), dtB n d = true → ∃ p, toPy s n d = some p ∧ p.plain = true := by
  intro n
  induction n with
  | zero =>
    intro d h
    cases d <;> first | (simp [dtB] at h; done) | skip
    · exact ⟨_, rfl, rfl⟩
    · exact ⟨_, rfl, rfl⟩
    · exact ⟨_, rfl, rfl⟩
    · exact ⟨_, rfl, rfl⟩
  | succ n ih =>
    intro d h
    cases d with
    | non => exact ⟨_, rfl, rfl⟩
    | bl b => exact ⟨_, rfl, rfl⟩
    | int b => exact ⟨_, rfl, rfl⟩
    | str b => exact ⟨_, rfl, rfl⟩
    | ref m => simp [dtB] at h
    | obj c ds => simp [dtB] at h
    | exv c ds => simp [dtB] at h
    | twn c ds => simp [dtB] at h
    | tup ds =>
      rw [dtB] at h
      obtain ⟨ps, e1, e2⟩ := toPys_dt (s := s) ih ds h
      exact ⟨.tuple ps, by rw [toPy, e1]; rfl, e2⟩
    | lst ds =>
      rw [dtB] at h
      obtain ⟨ps, e1, e2⟩ := toPys_dt (s := s) ih ds h
      exact ⟨.list ps, by rw [toPy, e1]; rfl, e2⟩
    | frz ds =>
      rw [dtB] at h
      obtain ⟨ps, e1, e2⟩ := toPys_dt (s := s) ih ds h
      exact ⟨.list ps, by rw [toPy, e1]; rfl, e2⟩
theorem eqv2_self {d : D} {s : Sto} (h : dtB 60 d = true) : eqv2 d d s = some true := by
  obtain ⟨p, e1, e2⟩ := toPy_dt (s := s) 60 d h
  unfold eqv2
  rw [e1]
  show some (PyData.eqv p p) = _
  rw [SeqAt.eqv_refl_plain p e2]
theorem eq_self {d : D} {s : Sto} (h : dtB 60 d = true) : Cm.sem .eq d d s = .ok (.bl true) s := by
  show eqD d d s = _
  unfold eqD
  split
  · simp_all
  · simp_all
  · rw [eqv2_self h]
theorem ne_self {d : D} {s : Sto} (h : dtB 60 d = true) : Cm.sem .ne d d s = .ok (.bl false) s := by
  show neD d d s = _
  unfold neD
  split
  · simp_all
  · simp_all
  · rw [eqv2_self h]; rfl
theorem dtBs_all {n : Nat} : ∀ {ds : List D}, dtBs n ds = true ↔ ∀ d ∈ ds, dtB n d = true
  | [] => by simp [dtBs]
  | d :: ds => by rw [dtBs, Bool.and_eq_true, dtBs_all, List.forall_mem_cons]
theorem dtBs_map {α : Type} {n : Nat} {f : α → D} {l : List α} (h : ∀ x ∈ l, dtB n (f x) = true) : dtBs n (l.map f) = true := dtBs_all.mpr fun d hd => by
  obtain ⟨x, hx, rfl⟩ := List.mem_map.mp hd
  exact h x hx
@[simp] theorem dtB_int {n : Nat} {i : Int} : dtB n (.int i) = true := by cases n <;> rfl
@[simp] theorem dtB_str {n : Nat} {i : Str} : dtB n (.str i) = true := by cases n <;> rfl
@[simp] theorem dtB_bl {n : Nat} {i : Bool} : dtB n (.bl i) = true := by cases n <;> rfl
@[simp] theorem dtB_non {n : Nat} : dtB n .non = true := by cases n <;> rfl
@[simp] theorem dtB_lst {n : Nat} {ds : List D} : dtB (n + 1) (.lst ds) = dtBs n ds := rfl
@[simp] theorem dtB_tup {n : Nat} {ds : List D} : dtB (n + 1) (.tup ds) = dtBs n ds := rfl
@[simp] theorem dtB_frz {n : Nat} {ds : List D} : dtB (n + 1) (.frz ds) = dtBs n ds := rfl
@[simp] theorem dtBs_strs {n : Nat} {l : List Str} : dtBs n (l.map D.str) = true := dtBs_map fun _ _ => dtB_str
@[simp] theorem dtBs_ints {n : Nat} {l : List Int} : dtBs n (l.map D.int) = true := dtBs_map fun _ _ => dtB_int
/-- a list of lists, held against the empty one -/
theorem eq_nil {x : D} {ds : List D} {s : Sto} (h : asL x s = some ds) (h2 : ∃ ps, allSome (ds.map (toPy s 59)) = some ps) (hx : ∀ es, x ≠ .tup es) : Cm.sem .eq x (.lst []) s = .ok (.bl ds.isEmpty) s := by
  obtain ⟨ps, e⟩ := h2
  have e60 : toPy s 60 x = some (.list ps) := by
    cases x with
    | lst es => cases h; rw [toPy, e]; rfl
    | frz es => cases h; rw [toPy, e]; rfl
    | ref n =>
      have h' : cellL s[n]? = some ds := h
      rw [toPy, h']
      show (allSome _).map _ = _
      rw [e]; rfl
    | tup es => exact absurd rfl (hx es)
    | _ => cases h
  have e2 : eqv2 x (.lst []) s = some ds.isEmpty := by
    unfold eqv2
    rw [e60]
    show some (PyData.eqv (.list ps) (.list [])) = _
    cases ds with
    | nil => cases (show (some [] : Option (List PyData)) = some ps from e); rfl
    | cons d ds =>
      have : ps ≠ [] := by
        rintro rfl
        rw [List.map_cons] at e
        cases q : toPy s 59 d with
        | none => rw [q] at e; cases e
        | some p =>
          rw [q] at e
          have e' : (allSome (ds.map (toPy s 59))).map (p :: ·) = some [] := e
          cases q2 : allSome (ds.map (toPy s 59)) with
          | none => rw [q2] at e'; cases e'
          | some _ => rw [q2] at e'; cases e'
      cases ps with
      | nil => exact absurd rfl this
      | cons p ps => rfl
  show eqD x (.lst []) s = _
  cases x <;> first | (cases h; done) | (simp only [eqD, e2]; done) | exact absurd rfl (hx _)
@[simp] theorem bms_append : BM.sem .append = appendD := rfl
@[simp] theorem bms_extend : BM.sem .extend = extendD := rfl
@[simp] theorem bms_insert : BM.sem .insert = insertD := rfl
@[simp] theorem bms_pop : BM.sem .pop = pop0D := rfl
@[simp] theorem bms_popAt : BM.sem .popAt = popAtD := rfl
@[simp] theorem bms_reverse : BM.sem .reverse = reverseD := rfl
@[simp] theorem bms_join : BM.sem .join = joinD := rfl
@[simp] theorem bms_starts : BM.sem .starts = startsD := rfl
@[simp] theorem bms_ends : BM.sem .ends = endsD := rfl
@[simp] theorem bms_sindex : BM.sem .sindex = sindexD := rfl
@[simp] theorem bmt_append : BM.ty .append = .list := rfl
@[simp] theorem bmt_extend : BM.ty .extend = .list := rfl
@[simp] theorem bmt_insert : BM.ty .insert = .list := rfl
@[simp] theorem bmt_pop : BM.ty .pop = .list := rfl
@[simp] theorem bmt_popAt : BM.ty .popAt = .list := rfl
@[simp] theorem bmt_reverse : BM.ty .reverse = .list := rfl
@[simp] theorem bmt_join : BM.ty .join = .str := rfl
@[simp] theorem bmt_starts : BM.ty .starts = .str := rfl
@[simp] theorem bmt_ends : BM.ty .ends = .str := rfl
@[simp] theorem bmt_sindex : BM.ty .sindex = .str := rfl
@[simp] theorem isTy_ref {n : Nat} {s : Sto} : isTy .list (.ref n) s = (cellL s[n]?).isSome := rfl
@[simp] theorem isTy_str {z : Str} {s : Sto} : isTy .str (.str z) s = true := rfl
@[simp] theorem append_e {n : Nat} {y : D} {s : Sto} : appendD (.ref n) [y] s = optD (cellL s[n]?) fun ds => if ds.length < sizeLine then .ok .non (s.set n (.lst (ds ++ [y]))) else .bad := by
  show optD ((cellL s[n]?).map _) _ = _
  cases cellL s[n]? <;> rfl
@[simp] theorem extend_e {n : Nat} {y : D} {s : Sto} : extendD (.ref n) [y] s = optD (cellL s[n]?) fun ds => optD (asH y s) fun es => if ds.length + es.length ≤ sizeLine then .ok .non (s.set n (.lst (ds ++ es))) else .bad := by
  show optD ((cellL s[n]?).map _) _ = _
  cases cellL s[n]? <;> rfl
@[simp] theorem insert_e {n : Nat} {i : Int} {y : D} {s : Sto} : insertD (.ref n) [.int i, y] s = optD (cellL s[n]?) fun ds => if ds.length < sizeLine ∧ 0 ≤ i ∧ i < 2 ^ 63 then .ok .non (s.set n (.lst (ds.take i.toNat ++ [y] ++ ds.drop i.toNat))) else .bad := by
  show optD ((cellL s[n]?).map _) _ = _
  cases cellL s[n]? <;> rfl
theorem join_e {a : Str} {ys : List Str} {s : Sto} (h : (ys.map (·.length)).sum + ys.length * a.length ≤ 16777216) : joinD (.str a) [.lst (ys.map D.str)] s = .ok (.str (Txt.join a ys)) s := by
  show optD ((itemsOf (.lst (ys.map D.str)) s).bind strsOf) _ = _
  show optD (strsOf (ys.map D.str)) _ = _
  rw [strsOf_map, optD_some, if_pos h]
@[simp] theorem str_e {i : Int} {s : Sto} : strD [.int i] s = if i.natAbs.log2 < 1920 then .ok (.str (toString i)) s else .bad := rfl
@[simp] theorem revD_lst {ds : List D} {s : Sto} : revD (.lst ds) s = some ⟨ds.reverse, fun s => deqO (asL (.lst ds) s) ds⟩ := rfl
@[simp] theorem revD_tup {ds : List D} {s : Sto} : revD (.tup ds) s = some ⟨ds.reverse, fun _ => true⟩ := rfl
@[simp] theorem revD_ref {n : Nat} {s : Sto} : revD (.ref n) s = (cellL s[n]?).map fun ds => ⟨ds.reverse, fun s => deqO (cellL s[n]?) ds⟩ := rfl
@[simp] theorem kLstRev_lst {k : Bool} {ds : List D} {s : Sto} : kLstRev k (.lst ds) s = newL k ds.reverse s := rfl
@[simp] theorem kLstRev_ref {k : Bool} {n : Nat} {s : Sto} : kLstRev k (.ref n) s = optD (cellL s[n]?) fun ds => newL k ds.reverse s := rfl
theorem addD_lst {a b : List D} {s : Sto} (h : a.length + b.length ≤ 16777216) : addD false (.lst a) (.lst b) s = .ok (.lst (a ++ b)) s := by
  show catD false (.lst a) (.lst b) s = _
  unfold catD
  show (if a.length + b.length ≤ sizeLine then _ else _) = _
  rw [if_pos (by rw [sizeLine_e]; exact h)]
  rfl
theorem zipD_lst {a b : List D} {s : Sto} : zipD (.lst a) (.lst b) s = some ⟨zipItems a b, fun _ => true⟩ := by
  simp [zipD]
theorem ix_last {α : Type} (l : List α) (x : α) : atI (l ++ [x]) (-1) = some x := by
  unfold atI ixN
  rw [if_neg (by decide), if_pos (by simp; omega)]
  simp
  have : (-1 + ((l.length : Int) + 1)).toNat = l.length := by omega
  rw [this]
  simp
theorem lcM_mapA {α : Type} {mt : D → MD Ro} {te : MD D} {gd : Sto → Bool} {ρ : Ro} {s : Sto} (e f : α → D) (l : List α) (h : ∀ a ∈ l, ∃ ρ2, mt (e a) ρ s = .ok ρ2 s ∧ te ρ2 s = .ok (f a) s) (hg : gd s = true := by first | rfl | simp) : lcM mt mYes te gd (l.map e) ρ s = .ok (l.map f) s := by
  induction l with
  | nil => rw [List.map_nil, lcM_nil, if_pos hg]; rfl
  | cons a l ih =>
    obtain ⟨ρ2, e1, e2⟩ := h a List.mem_cons_self
    rw [List.map_cons, lcM_cons, if_pos hg, e1, lc2_ok, mYes_e, lc3_ok, if_pos rfl, e2, lc4_ok, ih fun a' ha => h a' (List.mem_cons_of_mem _ ha)]
    rfl
theorem lcM_filterA {α : Type} {mt : D → MD Ro} {tt : MD Bool} {te : MD D} {gd : Sto → Bool} {ρ : Ro} {s : Sto} (e f : α → D) (t : α → Bool) (l : List α) (h : ∀ a ∈ l, ∃ ρ2, mt (e a) ρ s = .ok ρ2 s ∧ tt ρ2 s = .ok (t a) s ∧ (t a = true → te ρ2 s = .ok (f a) s)) (hg : gd s = true := by first | rfl | simp) : lcM mt tt te gd (l.map e) ρ s = .ok ((l.filter t).map f) s := by
  induction l with
  | nil => rw [List.map_nil, lcM_nil, if_pos hg]; rfl
  | cons a l ih =>
    obtain ⟨ρ2, e1, e2, e3⟩ := h a List.mem_cons_self
    have ih := ih fun a' ha => h a' (List.mem_cons_of_mem _ ha)
    rw [List.map_cons, lcM_cons, if_pos hg, e1, lc2_ok, e2, lc3_ok]
    by_cases q : t a = true
    · rw [if_pos q, e3 q, lc4_ok, ih, List.filter_cons_of_pos q]; rfl
    · rw [if_neg q, ih, List.filter_cons_of_neg q]
/-- a loop that goes on at each turn: an invariant by what is done and what is to come -/
theorem forM_over {α : Type} {mt : D → MD Ro} {body : MD Fl} {gd : Sto → Bool} (e : α → D) (l0 : List α) (I : List α → Ro → Sto → Prop) (hg : ∀ done ρ s, I done ρ s → gd s = true)
    (step : ∀ (done : List α) (a : α) (rest : List α) (ρ : Ro) (s : Sto), l0 = done ++ a :: rest → I done ρ s → ∃ ρ1 s1 ρ2 s2, mt (e a) ρ s = .ok ρ1 s1 ∧ (body ρ1 s1 = .ok (.nx ρ2) s2 ∨ body ρ1 s1 = .ok (.ct ρ2) s2) ∧ I (done ++ [a]) ρ2 s2) :
    ∀ (l done : List α) (ρ : Ro) (s : Sto), l0 = done ++ l → I done ρ s → ∃ ρ2 s2, forM mt body gd (l.map e) ρ s = .ok (.nx ρ2) s2 ∧ I l0 ρ2 s2
  | [], done, ρ, s, h0, h => ⟨ρ, s, by rw [List.map_nil, forM_nil, if_pos (hg _ _ _ h)], by rw [h0, List.append_nil]; exact h⟩
  | a :: l, done, ρ, s, h0, h => by
    obtain ⟨ρ1, s1, ρ2, s2, e1, e2, h2⟩ := step done a l ρ s h0 h
    obtain ⟨ρ3, s3, e3, h3⟩ := forM_over e l0 I hg step l (done ++ [a]) ρ2 s2 (by rw [h0]; simp) h2
    refine ⟨ρ3, s3, ?_, h3⟩
    rw [List.map_cons, forM_cons, if_pos (hg _ _ _ h), e1, for2_ok]
    rcases e2 with e2 | e2 <;> (rw [e2]; exact e3)
/-- the same in the store as it is: only the slots go on -/
theorem forM_fold {α : Type} {mt : D → MD Ro} {body : MD Fl} (e : α → D) {s : Sto} (I : List α → Ro → Prop) (l : List α) (ρ : Ro) (h : I [] ρ)
    (step : ∀ (done : List α) (a : α) (rest : List α) (ρ : Ro), l = done ++ a :: rest → I done ρ → ∃ ρ1 ρ2, mt (e a) ρ s = .ok ρ1 s ∧ (body ρ1 s = .ok (.nx ρ2) s ∨ body ρ1 s = .ok (.ct ρ2) s) ∧ I (done ++ [a]) ρ2) :
    ∃ ρ2, (∀ gd : Sto → Bool, gd s = true → forM mt body gd (l.map e) ρ s = .ok (.nx ρ2) s) ∧ I l ρ2 := by
  have key : ∀ gd : Sto → Bool, gd s = true → ∃ ρ2, forM mt body gd (l.map e) ρ s = .ok (.nx ρ2) s ∧ I l ρ2 := fun gd hg => by
    obtain ⟨ρ2, s2, e1, h2, rfl⟩ := forM_over (mt := mt) (body := body) (gd := gd) e l (fun dn ρ s' => I dn ρ ∧ s' = s) (fun _ _ _ h => by rw [h.2]; exact hg) (fun dn a rest ρ s' h0 hI => by
      obtain ⟨hI, rfl⟩ := hI
      obtain ⟨ρ1, ρ2, e1, e2, e3⟩ := step dn a rest ρ h0 hI
      exact ⟨ρ1, _, ρ2, _, e1, e2, e3, rfl⟩) l [] ρ s rfl ⟨h, rfl⟩
    exact ⟨ρ2, e1, h2⟩
  obtain ⟨ρ2, e1, h2⟩ := key (fun _ => true) rfl
  refine ⟨ρ2, fun gd hg => ?_, h2⟩
  have same : ∀ (l2 dn : List α) (ρ : Ro), l = dn ++ l2 → I dn ρ → forM mt body gd (l2.map e) ρ s = forM mt body (fun _ => true) (l2.map e) ρ s := by
    intro l2
    induction l2 with
    | nil => intro dn ρ _ _; rw [List.map_nil, forM_nil, forM_nil, if_pos hg, if_pos rfl]
    | cons a l2 ih =>
      intro dn ρ h0 hI
      obtain ⟨ρ1, ρ2, e1, e2, e3⟩ := step dn a l2 ρ h0 hI
      rw [List.map_cons, forM_cons, forM_cons, if_pos hg, if_pos rfl, e1, for2_ok, for2_ok]
      rcases e2 with e2 | e2 <;> (rw [e2]; exact ih (dn ++ [a]) ρ2 (by rw [h0]; simp) e3)
  rw [same l [] ρ rfl h]
  exact e1
theorem zipItems_map {α : Type} (f g : α → D) (l : List α) : zipItems (l.map f) (l.map g) = l.map fun a => .tup [f a, g a] := by
  unfold zipItems
  induction l with
  | nil => rfl
  | cons a l ih => simpa using ih
theorem range_split {n a : Nat} {dn rest : List Nat} (h : List.range n = dn ++ a :: rest) : dn = List.range a ∧ a < n := by
  have h1 : (List.range n)[dn.length]? = some a := by rw [h]; simp
  have hl : dn.length < n := by
    have := congrArg List.length h
    simp at this; omega
  rw [List.getElem?_range hl] at h1
  cases h1
  refine ⟨?_, hl⟩
  have h2 := congrArg (List.take dn.length) h
  rw [List.take_left, List.take_range, Nat.min_eq_left (Nat.le_of_lt hl)] at h2
  exact h2.symm
theorem rng_nat {n : Nat} (h : n ≤ 1000000) {s : Sto} : rngD [.int (n : Int)] s = .ok (rngS 0 1 n) s := by
  rw [rng_1, if_pos (by omega), Int.toNat_natCast]
theorem rngS_items {n : Nat} : (rngS 0 1 n).items = (List.range n).map fun i : Nat => D.int (i : Int) := by
  unfold rngS
  exact List.map_congr_left fun i _ => by rw [Int.mul_one, Int.zero_add]
def refsA (a n : Nat) : List D := (List.range n).map fun (j : Nat) => D.ref (a + j)
theorem refsA_succ (a n : Nat) : refsA a (n + 1) = refsA a n ++ [.ref (a + n)] := by unfold refsA; rw [List.range_succ, List.map_append]; rfl
@[simp] theorem refsA_len (a n : Nat) : (refsA a n).length = n := by simp [refsA]
theorem refsA_at {a n i : Nat} (h : i < n) : (refsA a n)[i]? = some (.ref (a + i)) := by simp [refsA, h]
theorem set_mid {α : Type} (s l : List α) (c c' : α) : (s ++ c :: l).set s.length c' = s ++ c' :: l := by simp
theorem get_mid {α : Type} (s l : List α) (c : α) : (s ++ c :: l)[s.length]? = some c := by simp
theorem toPy_ref {s : Sto} {m n : Nat} {ds : List D} (h : cellL s[m]? = some ds) : toPy s (n + 1) (.ref m) = toPy s (n + 1) (.lst ds) := by
  simp only [toPy, h]
/-- a plain list, held against the like one in a cell -/
theorem eq_lref {s : Sto} {m : Nat} {ds : List D} (h : cellL s[m]? = some ds) (hd : dtB 60 (.lst ds) = true) : Cm.sem .eq (.lst ds) (.ref m) s = .ok (.bl true) s := by
  have e : eqv2 (.lst ds) (.ref m) s = some true := by
    unfold eqv2
    rw [toPy_ref h]
    exact eqv2_self hd
  show eqD (.lst ds) (.ref m) s = _
  simp only [eqD, e]
theorem eq_refl2 {s : Sto} {m : Nat} {ds : List D} (h : cellL s[m]? = some ds) (hd : dtB 60 (.lst ds) = true) : Cm.sem .eq (.ref m) (.lst ds) s = .ok (.bl true) s := by
  have e : eqv2 (.ref m) (.lst ds) s = some true := by
    unfold eqv2
    rw [toPy_ref h]
    exact eqv2_self hd
  show eqD (.ref m) (.lst ds) s = _
  simp only [eqD, e]
theorem ix_at {α : Type} {l : List α} {i : Nat} {x : α} (h : l[i]? = some x) : atI l (i : Int) = some x := by
  have hi := (List.getElem?_eq_some_iff.mp h).1
  unfold atI ixN
  rw [if_pos (by omega), if_pos (by omega)]
  simpa using h
structure LL (s : Sto) (o : Nat) (R : List (List D)) (ix : List Nat) : Prop where
  out : s[o]? = some (.lst (ix.map D.ref))
  len : ix.length = R.length
  inn : ∀ (i j : Nat) (r : List D), ix[i]? = some j → R[i]? = some r → s[j]? = some (.lst r)
  nd : ix.Nodup
  no : o ∉ ix
theorem LL.lt {s : Sto} {o : Nat} {R : List (List D)} {ix : List Nat} (h : LL s o R ix) {j : Nat} (hj : j ∈ ix) : j < s.length := by
  obtain ⟨i, hi⟩ := List.getElem?_of_mem hj
  have hil : i < R.length := by rw [← h.len]; exact (List.getElem?_eq_some_iff.mp hi).1
  exact (List.getElem?_eq_some_iff.mp (h.inn i j _ hi (List.getElem?_eq_getElem hil))).1
theorem LL.olt {s : Sto} {o : Nat} {R : List (List D)} {ix : List Nat} (h : LL s o R ix) : o < s.length := (List.getElem?_eq_some_iff.mp h.out).1
theorem LL.new {s : Sto} {o : Nat} {R : List (List D)} {ix : List Nat} (h : LL s o R ix) (ds : List D) : LL ((s ++ [Cell.lst ds]).set o (Cell.lst (ix.map D.ref ++ [D.ref s.length]))) o (R ++ [ds]) (ix ++ [s.length]) where
  out := by
    have := h.olt
    rw [List.getElem?_set_self (by simp; omega), List.map_append]; rfl
  len := by simp [h.len]
  inn := fun i j r h1 h2 => by
    by_cases hi : i < ix.length
    · rw [List.getElem?_append_left hi] at h1
      rw [List.getElem?_append_left (by rw [← h.len]; exact hi)] at h2
      have hj : j ∈ ix := List.mem_of_getElem? h1
      have hjl := h.lt hj
      rw [List.getElem?_set_ne (fun e => h.no (by rw [e]; exact hj)), List.getElem?_append_left hjl]
      exact h.inn i j r h1 h2
    · have hi' : i = ix.length := by
        have := (List.getElem?_eq_some_iff.mp h1).1
        simp at this; omega
      subst hi'
      have h1' : s.length = j := by simpa using h1
      rw [h.len] at h2
      have h2' : ds = r := by simpa using h2
      subst h1' h2'
      have := h.olt
      rw [List.getElem?_set_ne (by omega)]
      simp
  nd := List.nodup_append.mpr ⟨h.nd, by simp, fun a ha b hb e => by
    simp at hb; subst hb
    have := h.lt ha
    omega⟩
  no := fun hm => by
    have := h.olt
    rcases List.mem_append.mp hm with hm | hm
    · exact h.no hm
    · simp at hm; omega
theorem LL.put {s : Sto} {o : Nat} {R : List (List D)} {r : List D} {ix : List Nat} (h : LL s o (R ++ [r]) ix) : ∃ ix0 j, ix = ix0 ++ [j] ∧ s[j]? = some (.lst r) ∧ ∀ r', LL (s.set j (Cell.lst r')) o (R ++ [r']) ix := by
  have hl := h.len
  rcases List.eq_nil_or_concat ix with e | ⟨ix0, j, e⟩
  · rw [e] at hl; simp at hl
  · rw [List.concat_eq_append] at e
    have hl0 : ix0.length = R.length := by rw [e] at hl; simpa using hl
    have hj : ix[R.length]? = some j := by rw [e, ← hl0]; simp
    have hjm : j ∈ ix := List.mem_of_getElem? hj
    refine ⟨ix0, j, e, h.inn R.length j r hj (by simp), fun r' => ⟨?_, ?_, fun i j' r2 h1 h2 => ?_, h.nd, h.no⟩⟩
    · rw [List.getElem?_set_ne (fun q => h.no (by rw [← q]; exact hjm))]; exact h.out
    · rw [hl]; simp
    · by_cases hi : i = R.length
      · subst hi
        rw [hj] at h1; cases h1
        have h2' : r' = r2 := by simpa using h2
        subst h2'
        rw [List.getElem?_set_self (h.lt hjm)]
      · have hne : j ≠ j' := fun q => by
          subst q
          obtain ⟨a1, b1⟩ := List.getElem?_eq_some_iff.mp h1
          obtain ⟨a2, b2⟩ := List.getElem?_eq_some_iff.mp hj
          exact hi ((List.getElem_inj h.nd).mp (b1.trans b2.symm))
        rw [List.getElem?_set_ne hne]
        refine h.inn i j' r2 h1 ?_
        have hil : i < R.length := by
          have := (List.getElem?_eq_some_iff.mp h2).1
          simp at this; omega
        rw [List.getElem?_append_left hil] at h2 ⊢
        exact h2
theorem LL.frG {s : Sto} {o k : Nat} {R : List (List D)} {ix : List Nat} (h : LL s o R ix) (hR : ∀ r ∈ R, ∀ d ∈ r, Mx.frG s k d = some d) : Mx.frG s (k + 2) (.ref o) = some (.lst (R.map D.lst)) := by
  rw [Mx.frG, h.out]
  show (allSome ((ix.map D.ref).map (Mx.frG s (k + 1)))).map D.lst = _
  rw [List.map_map, allSome_ix (f := Mx.frG s (k + 1) ∘ D.ref) (m := R.map D.lst) (by simp [h.len]) fun i x y h1 h2 => ?_]
  · rfl
  · rw [List.getElem?_map] at h2
    obtain ⟨r, hr, rfl⟩ := Option.map_eq_some_iff.mp h2
    show Mx.frG s (k + 1) (.ref x) = _
    rw [Mx.frG, h.inn i x r h1 hr]
    show (allSome (r.map (Mx.frG s k))).map D.lst = _
    rw [show allSome (r.map (Mx.frG s k)) = some r by
      have := allSome_map (f := Mx.frG s k) (g := id) (l := r) fun d hd => hR r (List.mem_of_getElem? hr) d hd
      rw [this, List.map_id]]
    rfl
theorem LL.py {s : Sto} {o : Nat} {R : List (List D)} {ix : List Nat} (h : LL s o R ix) (hR : ∀ r ∈ R, dtBs 58 r = true) : ∃ ps, allSome ((ix.map D.ref).map (toPy s 59)) = some ps := by
  rw [List.map_map]
  have h1 : ∀ j ∈ ix, ∃ p, (toPy s 59 ∘ D.ref) j = some p := fun j hj => by
    obtain ⟨i, hi⟩ := List.getElem?_of_mem hj
    have hil : i < R.length := by rw [← h.len]; exact (List.getElem?_eq_some_iff.mp hi).1
    have hr : R[i]? = some R[i] := List.getElem?_eq_getElem hil
    have hc : cellL s[j]? = some R[i] := by rw [h.inn i j _ hi hr]; rfl
    obtain ⟨p, e, _⟩ := toPy_dt (s := s) 59 (.lst R[i]) (hR _ (List.mem_of_getElem? hr))
    exact ⟨p, (toPy_ref hc).trans e⟩
  clear h
  induction ix with
  | nil => exact ⟨[], rfl⟩
  | cons j l ih =>
    obtain ⟨p, e⟩ := h1 j List.mem_cons_self
    obtain ⟨ps, e2⟩ := ih fun a ha => h1 a (List.mem_cons_of_mem _ ha)
    refine ⟨p :: ps, ?_⟩
    rw [List.map_cons, e]
    show (allSome (l.map _)).map _ = _
    rw [e2]; rfl
theorem LL.cell {s : Sto} {o : Nat} {R : List (List D)} {ix : List Nat} (h : LL s o R ix) : cellL s[o]? = some (ix.map D.ref) := by rw [h.out]; rfl
theorem LL.putAt {s : Sto} {o : Nat} {R : List (List D)} {ix : List Nat} (h : LL s o R ix) {i j : Nat} (hj : ix[i]? = some j) (r' : List D) : LL (s.set j (Cell.lst r')) o (R.set i r') ix where
  out := by
    have hjm : j ∈ ix := List.mem_of_getElem? hj
    rw [List.getElem?_set_ne (fun q => h.no (by rw [← q]; exact hjm))]; exact h.out
  len := by rw [List.length_set]; exact h.len
  inn := fun i' j' r2 h1 h2 => by
    by_cases hi : i' = i
    · subst hi
      rw [hj] at h1; cases h1
      have hil : i' < R.length := by rw [← h.len]; exact (List.getElem?_eq_some_iff.mp hj).1
      rw [List.getElem?_set_self hil] at h2
      cases h2
      rw [List.getElem?_set_self (h.lt (List.mem_of_getElem? hj))]
    · have hne : j ≠ j' := fun q => by
        subst q
        obtain ⟨a1, b1⟩ := List.getElem?_eq_some_iff.mp h1
        obtain ⟨a2, b2⟩ := List.getElem?_eq_some_iff.mp hj
        exact hi ((List.getElem_inj h.nd).mp (b1.trans b2.symm))
      rw [List.getElem?_set_ne hne]
      rw [List.getElem?_set_ne (Ne.symm hi)] at h2
      exact h.inn i' j' r2 h1 h2
  nd := h.nd
  no := h.no
theorem LL.zip {s : Sto} {o : Nat} {R : List (List D)} {ix : List Nat} (h : LL s o R ix) : ∀ p ∈ ix.zip R, s[p.1]? = some (.lst p.2) := fun p hp => by
  obtain ⟨i, hi⟩ := List.getElem?_of_mem hp
  rw [List.getElem?_zip_eq_some] at hi
  exact h.inn i _ _ hi.1 hi.2
theorem LL.items {s : Sto} {o : Nat} {R : List (List D)} {ix : List Nat} (h : LL s o R ix) : ix.map D.ref = (ix.zip R).map fun p => D.ref p.1 := by
  have := List.map_fst_zip (l₁ := ix) (l₂ := R) (by rw [h.len]; exact Nat.le_refl _)
  conv => lhs; rw [← this]
  rw [List.map_map]; rfl
theorem LL.second {s : Sto} {o : Nat} {R : List (List D)} {ix : List Nat} (h : LL s o R ix) (f : List D → D) : (ix.zip R).map (fun p => f p.2) = R.map f := by
  have := List.map_snd_zip (l₁ := ix) (l₂ := R) (by rw [h.len]; exact Nat.le_refl _)
  conv => rhs; rw [← this]
  rw [List.map_map]; rfl
theorem toPy_list {x : D} {ds : List D} {s : Sto} (h : asL x s = some ds) (n : Nat) : toPy s (n + 1) x = (allSome (ds.map (toPy s n))).map .list := by
  cases x with
  | lst es => cases h; rw [toPy]
  | frz es => cases h; rw [toPy]
  | ref m =>
    have h' : cellL s[m]? = some ds := h
    simp only [toPy, h']
  | _ => cases h
theorem allSome_len {α : Type} : ∀ {l : List (Option α)} {m : List α}, allSome l = some m → m.length = l.length
  | [], m, h => by cases (show (some [] : Option (List α)) = some m from h); rfl
  | none :: l, m, h => by cases h
  | some x :: l, m, h => by
    have h' : (allSome l).map (x :: ·) = some m := h
    obtain ⟨k, e, rfl⟩ := Option.map_eq_some_iff.mp h'
    simp [allSome_len e]
/-- a list of any things, held against the empty one -/
theorem eqD_nil {x : D} {ds : List D} {s : Sto} (h : asL x s = some ds) : (eqv2 x (.lst []) s = some ds.isEmpty) ∨ (eqv2 x (.lst []) s = none ∧ lensB x (.lst []) s = true ∧ ds.isEmpty = false) := by
  have e := toPy_list h 59
  cases q : allSome (ds.map (toPy s 59)) with
  | none =>
    refine .inr ⟨?_, ?_, ?_⟩
    · unfold eqv2; rw [e, q]; rfl
    · unfold lensB
      rw [h]
      cases ds with
      | nil => cases q
      | cons d ds => rfl
    · cases ds with
      | nil => cases q
      | cons d ds => rfl
  | some ps =>
    left
    unfold eqv2
    rw [e, q]
    show some (PyData.eqv (.list ps) (.list [])) = _
    have hl := allSome_len q
    rw [List.length_map] at hl
    cases ds with
    | nil => cases ps with
      | nil => rfl
      | cons _ _ => simp at hl
    | cons d ds => cases ps with
      | nil => simp at hl
      | cons _ _ => rfl
theorem eq_nilA {x : D} {ds : List D} {s : Sto} (h : asL x s = some ds) : Cm.sem .eq x (.lst []) s = .ok (.bl ds.isEmpty) s := by
  show eqD x (.lst []) s = _
  rcases eqD_nil h with e | ⟨e, e2, e3⟩
  · cases x <;> first | (cases h; done) | (simp only [eqD, e])
  · rw [e3]
    cases x <;> first | (cases h; done) | (simp only [eqD, e, e2, if_true])
theorem ne_nilA {x : D} {ds : List D} {s : Sto} (h : asL x s = some ds) : Cm.sem .ne x (.lst []) s = .ok (.bl (!ds.isEmpty)) s := by
  show neD x (.lst []) s = _
  rcases eqD_nil h with e | ⟨e, e2, e3⟩
  · cases x <;> first | (cases h; done) | (simp only [neD, e])
  · rw [e3]
    cases x <;> first | (cases h; done) | (simp only [neD, e, e2, if_true]; rfl)
theorem cut_from {α : Type} {l : List α} {f : α → D} {n : Nat} : cutD (l.map f) (some (n : Int)) none = (l.drop n).map f := by
  unfold cutD
  rw [HT.sIx_nat, List.length_map]
  show (List.drop _ _).take (l.length - _) = _
  rw [← List.map_drop]
  by_cases h : n ≤ l.length
  · rw [Nat.min_eq_left h]
    exact List.take_of_length_le (by simp)
  · rw [Nat.min_eq_right (by omega), List.drop_eq_nil_of_le (Nat.le_refl _), List.drop_eq_nil_of_le (by omega)]
    simp
theorem cut_to {α : Type} {l : List α} {f : α → D} {n : Nat} : cutD (l.map f) none (some (n : Int)) = (l.take n).map f := by
  unfold cutD
  rw [HT.sIx_nat, List.length_map]
  show (List.drop 0 _).take (min n l.length - 0) = _
  rw [List.drop_zero, Nat.sub_zero, ← List.map_take]
  by_cases h : n ≤ l.length
  · rw [Nat.min_eq_left h]
  · rw [Nat.min_eq_right (by omega), List.take_of_length_le (Nat.le_refl _), List.take_of_length_le (by omega)]
theorem max_some {l : List Int} (h : l ≠ []) : ∃ m, l.max? = some m ∧ m ∈ l ∧ ∀ x ∈ l, x ≤ m := by
  cases e : l.max? with
  | none => exact absurd (List.max?_eq_none_iff.mp e) h
  | some m =>
    obtain ⟨h1, h2⟩ := List.max?_eq_some_iff.mp e
    exact ⟨m, rfl, h1, h2⟩
theorem maxD_ints {l : List Int} {m : Int} (h : l.max? = some m) {s : Sto} : maxD [.lst (l.map D.int)] s = .ok (.int m) s := by
  show optD ((listInts (.lst (l.map D.int)) s).bind List.max?) _ = _
  show optD ((intsOf (l.map D.int)).bind List.max?) _ = _
  rw [intsOf_map, Option.bind_some, h]
  rfl
theorem len_app (a b : Str) : (a ++ b).length = a.length + b.length := by rw [len_tl, len_tl, len_tl, tl_append, List.length_append]
theorem len_one (c : Nat) : (⟨#[c]⟩ : Str).length = 1 := rfl
theorem app_assoc (a b c : Str) : a ++ b ++ c = a ++ (b ++ c) := ext_tl (by rw [tl_append, tl_append, tl_append, tl_append, List.append_assoc])
theorem str_ne {a : Str} {b : Str} (h : a.length ≠ b.length) : a ≠ b := fun e => h (by rw [e])
/-- a sign of a text, at a place that is known to be there -/
theorem idx_pick (z : Str) (r : Int) (k : Nat) (hz : z.length = k) (hk : k ≤ 16777216) (h0 : 0 ≤ r) (h1 : r < k) : ∃ c ∈ z.cps.toList, ∀ s : Sto, idxD (.str z) (.int r) s = .ok (.str ⟨#[c]⟩) s := by
  obtain ⟨n, rfl⟩ : ∃ n : Nat, r = n := ⟨r.toNat, by omega⟩
  have hn : n < z.cps.toList.length := by
    have : z.length = z.cps.toList.length := len_tl z
    omega
  refine ⟨z.cps.toList[n], List.getElem_mem hn, fun s => ?_⟩
  rw [idx_str, if_pos (by rw [sizeLine_e]; omega)]
  have e : atI z.cps.toList (n : Int) = some z.cps.toList[n] := by
    have hn' : n < z.cps.size := by simpa using hn
    unfold atI ixN
    simp [hn']
  rw [e]
  rfl
end Mx
namespace Mx
open PySem L2
@[simp] theorem mIsx_e {t : String → Option Bool} {i e : Nat → Option Bool} {a : MD D} {ρ : Ro} {s : Sto} : mIsx t i e a ρ s = fin (isxD t i e) (a ρ s) := rfl
@[simp] theorem isxD_exv {t : String → Option Bool} {i e : Nat → Option Bool} {q : Nat} {ds : List D} {s : Sto} : isxD t i e (.exv q ds) s = optD (e q) fun b => .ok (.bl b) s := rfl
@[simp] theorem isxD_non {t : String → Option Bool} {i e : Nat → Option Bool} {s : Sto} : isxD t i e .non s = isiD t i .non s := rfl
@[simp] theorem mIsxT_e {e : Nat → Option Bool} {a : MD D} {ρ : Ro} {s : Sto} : mIsxT e a ρ s = fin (isxT e) (a ρ s) := rfl
@[simp] theorem isxT_exv {e : Nat → Option Bool} {q : Nat} {ds : List D} {s : Sto} : isxT e (.exv q ds) s = optD (e q) fun b => .ok (.bl b) s := rfl
@[simp] theorem mLstD_e {k : Bool} {m : MD D} {ρ : Ro} {s : Sto} : mLstD k m ρ s = fin (kLstD k) (m ρ s) := rfl
@[simp] theorem mRevR_e {m : MD D} {ρ : Ro} {s : Sto} : mRevR m ρ s = fin kRevR (m ρ s) := rfl
theorem kRevR_ok {n : Nat} {s : Sto} (h : n ≤ 1000000000) : kRevR (.int (n : Int)) s = .ok (revRS n) s := by
  show (if ((n : Int)).natAbs ≤ 1000000000 then Rs.ok (revRS ((n : Int)).toNat) s else .bad) = _
  rw [if_pos (by omega)]; rfl
@[simp] theorem mFldX_e {ix : Nat → Option Nat} {a : MD D} {ρ : Ro} {s : Sto} : mFldX ix a ρ s = fin (fldX ix) (a ρ s) := rfl
@[simp] theorem fldX_exv {ix : Nat → Option Nat} {q : Nat} {ds : List D} {s : Sto} : fldX ix (.exv q ds) s = optD (ix q) fun k => optD ds[k]? fun d => .ok d s := rfl
@[simp] theorem sRaise_e {q : Nat} {ρ : Ro} {s : Sto} : sRaise q ρ s = .exc q [] s := rfl
def raise1 (q : Nat) (dds : List D) (r : Rs (List D)) : Rs Fl := r.bind fun ds s => .exc q (ds ++ dds).reverse s
@[simp] theorem sRaiseI_e {q : Nat} {dds : List D} {ms : MD (List D)} {ρ : Ro} {s : Sto} : sRaiseI q dds ms ρ s = raise1 q dds (ms ρ s) := rfl
@[simp] theorem raise1_ok {q : Nat} {dds ds : List D} {s : Sto} : raise1 q dds (.ok ds s) = .exc q (ds ++ dds).reverse s := rfl
def callE1 (φ : List D → Sto → Rs D) (dds : List D) (r : Rs (List D)) : Rs D := match r with
  | .ok ds s => φ (ds ++ dds) s
  | _ => .bad
@[simp] theorem mCallE_e {φ : List D → Sto → Rs D} {dds : List D} {ms : MD (List D)} {ρ : Ro} {s : Sto} : mCallE φ dds ms ρ s = callE1 φ dds (ms ρ s) := rfl
@[simp] theorem callE1_ok {φ : List D → Sto → Rs D} {dds ds : List D} {s : Sto} : callE1 φ dds (.ok ds s) = φ (ds ++ dds) s := rfl
def setE1 (i : Nat) (ρ : Ro) (r : Rs D) : Rs Fl := r.bind fun d s => .ok (.nx (ρ.set i (some d))) s
@[simp] theorem sSetE_e {m : MD D} {i : Nat} {ρ : Ro} {s : Sto} : sSetE m i ρ s = setE1 i ρ (m ρ s) := rfl
@[simp] theorem setE1_ok {i : Nat} {ρ : Ro} {d : D} {s : Sto} : setE1 i ρ (.ok d s) = .ok (.nx (ρ.set i (some d))) s := rfl
@[simp] theorem setE1_exc {i : Nat} {ρ : Ro} {q : Nat} {ds : List D} {s : Sto} : setE1 i ρ (.exc q ds s) = .exc q ds s := rfl
def ifE1 (ρ : Ro) (a b : MD Fl) (r : Rs Bool) : Rs Fl := match r with
  | .ok k s => if k = true then a ρ s else b ρ s
  | _ => .bad
@[simp] theorem sIfE_e {c : MD Bool} {a b : MD Fl} {ρ : Ro} {s : Sto} : sIfE c a b ρ s = ifE1 ρ a b (c ρ s) := rfl
@[simp] theorem ifE1_ok {ρ : Ro} {a b : MD Fl} {k : Bool} {s : Sto} : ifE1 ρ a b (.ok k s) = if k = true then a ρ s else b ρ s := rfl
def try2 (i : Nat) (r : Rs Fl) : Rs Fl := match r with
  | .ok (.nx ρ') s => .ok (.nx (ρ'.set i none)) s
  | _ => .bad
@[simp] theorem try2_nx {i : Nat} {ρ : Ro} {s : Sto} : try2 i (.ok (.nx ρ) s) = .ok (.nx (ρ.set i none)) s := rfl
def try1 (i : Nat) (ex : Nat → Option Bool) (suite : MD Fl) (ρ : Ro) (r : Rs Fl) : Rs Fl := match r with
  | .ok (.nx ρ') s' => .ok (.nx ρ') s'
  | .exc q ds s' => if ex q = some true then try2 i (suite (ρ.set i (some (.exv q ds))) s') else .bad
  | _ => .bad
@[simp] theorem sTry_e {i : Nat} {ex : Nat → Option Bool} {m suite : MD Fl} {ρ : Ro} {s : Sto} : sTry i ex m suite ρ s = try1 i ex suite ρ (m ρ s) := rfl
@[simp] theorem try1_ok {i : Nat} {ex : Nat → Option Bool} {suite : MD Fl} {ρ ρ' : Ro} {s : Sto} : try1 i ex suite ρ (.ok (.nx ρ') s) = .ok (.nx ρ') s := rfl
theorem try1_exc {i : Nat} {ex : Nat → Option Bool} {suite : MD Fl} {ρ : Ro} {q : Nat} {ds : List D} {s : Sto} (h : ex q = some true) : try1 i ex suite ρ (.exc q ds s) = try2 i (suite (ρ.set i (some (.exv q ds))) s) := if_pos h
def tryN1 (ex : Nat → Option Bool) (suite : MD Fl) (ρ : Ro) (r : Rs Fl) : Rs Fl := match r with
  | .ok f s' => .ok f s'
  | .exc q ds s' => match ex q with
    | some true => (match suite ρ s' with
      | .ok f s'' => .ok f s''
      | _ => .bad)
    | some false => .exc q ds s'
    | none => .bad
  | .bad => .bad
@[simp] theorem sTryN_e {ex : Nat → Option Bool} {m suite : MD Fl} {ρ : Ro} {s : Sto} : sTryN ex m suite ρ s = tryN1 ex suite ρ (m ρ s) := rfl
@[simp] theorem tryN1_ok {ex : Nat → Option Bool} {suite : MD Fl} {ρ : Ro} {f : Fl} {s : Sto} : tryN1 ex suite ρ (.ok f s) = .ok f s := rfl
theorem tryN1_exc {ex : Nat → Option Bool} {suite : MD Fl} {ρ : Ro} {q : Nat} {ds : List D} {s s2 : Sto} {f : Fl} (h : ex q = some true) (k : suite ρ s = .ok f s2) : tryN1 ex suite ρ (.exc q ds s) = .ok f s2 := by
  unfold tryN1
  simp only [h, k]
@[simp] theorem kZipG_e {x y : D} {s : Sto} : kZipG [x, y] s = optS (Mx.zipG x y s) fun c => .ok c s := rfl
@[simp] theorem mZipG_e {ms : MD (List D)} {ρ : Ro} {s : Sto} : mZipG ms ρ s = fin kZipG (ms ρ s) := rfl
theorem zipG_some {x y : D} {ds es : List D} {s : Sto} (hx : ∀ s, sideD x s = some ds) (hy : ∀ s, sideD y s = some es) : Mx.zipG x y s = some ⟨zipItems ds es, fun _ => true⟩ := by
  unfold Mx.zipG
  rw [hx, hy]
  simp [hx, hy]
@[simp] theorem zipG_tt {ds es : List D} {s : Sto} : Mx.zipG (.tup ds) (.tup es) s = some ⟨zipItems ds es, fun _ => true⟩ := zipG_some (fun _ => rfl) fun _ => rfl
@[simp] theorem zipG_tl {ds es : List D} {s : Sto} : Mx.zipG (.tup ds) (.lst es) s = some ⟨zipItems ds es, fun _ => true⟩ := zipG_some (fun _ => rfl) fun _ => rfl
@[simp] theorem zipG_lt {ds es : List D} {s : Sto} : Mx.zipG (.lst ds) (.tup es) s = some ⟨zipItems ds es, fun _ => true⟩ := zipG_some (fun _ => rfl) fun _ => rfl
@[simp] theorem zipG_ll {ds es : List D} {s : Sto} : Mx.zipG (.lst ds) (.lst es) s = some ⟨zipItems ds es, fun _ => true⟩ := zipG_some (fun _ => rfl) fun _ => rfl
@[simp] theorem zipG_ts {ds : List D} {x : Str} {s : Sto} : Mx.zipG (.tup ds) (.str x) s = some ⟨zipItems ds (signsD x), fun _ => true⟩ := zipG_some (fun _ => rfl) fun _ => rfl
@[simp] theorem zipG_ls {ds : List D} {x : Str} {s : Sto} : Mx.zipG (.lst ds) (.str x) s = some ⟨zipItems ds (signsD x), fun _ => true⟩ := zipG_some (fun _ => rfl) fun _ => rfl
end Mx
namespace Kn
open PySem L2 Mx TL
theorem dfl_vals {K : PySem.W.Frag} {fd : FuncData} {ps : List Str} {dds : List D} {vs : List V} (h : ∃ ds, Vals vs ds ∧ Binds K fd ps ds) (_ : allSome (dds.map plainV) = some vs) : ∃ ds, Vals vs ds ∧ Binds K fd ps ds := h
def clsN : List Str := ["StitchError", "NoStitch", "NoSum", "NoPattern", "TooMany", "Miscount", "NotLying", "NoChart", "Tangle", "NoRow", "NoName", "NoPlace", "Stitch", "Plain", "Slip", "Over", "Lean", "Grow", "Cross", "Off", "Keep", "Fetch"]
def cfT : List (List Str) := [[], [], ["row"], [], [], ["asked", "lies", "choice", "place", "row"], [], [], ["move"], [], [], [], [], ["side"], [], [], ["many", "way", "side"], ["many", "side"], ["first", "second", "way", "side"], [], ["keeper"], ["keeper"]]
def x_first (q : Nat) : Option Nat := ([none, none, none, none, none, none, none, none, none, none, none, none, none, none, none, none, none, none, some 0, none, none, none] : List (Option Nat)).getD q none
def x_keeper (q : Nat) : Option Nat := ([none, none, none, none, none, none, none, none, none, none, none, none, none, none, none, none, none, none, none, none, some 0, some 0] : List (Option Nat)).getD q none
def x_many (q : Nat) : Option Nat := ([none, none, none, none, none, none, none, none, none, none, none, none, none, none, none, none, some 0, some 0, none, none, none, none] : List (Option Nat)).getD q none
def x_second (q : Nat) : Option Nat := ([none, none, none, none, none, none, none, none, none, none, none, none, none, none, none, none, none, none, some 1, none, none, none] : List (Option Nat)).getD q none
def x_side (q : Nat) : Option Nat := ([none, none, none, none, none, none, none, none, none, none, none, none, none, some 0, none, none, some 2, some 1, some 3, none, none, none] : List (Option Nat)).getD q none
def x_way (q : Nat) : Option Nat := ([none, none, none, none, none, none, none, none, none, none, none, none, none, none, none, none, some 1, none, some 2, none, none, none] : List (Option Nat)).getD q none
def b_ty_Stitch : String → Option Bool := tyF
def a_Stitch (q : Nat) : Option Bool := ([none, none, none, none, none, none, none, none, none, none, none, none, some true, some true, some true, some true, some true, some true, some true, some true, some true, some true] : List (Option Bool)).getD q none
def a_bool (q : Nat) : Option Bool := ([none, none, none, none, none, none, none, none, none, none, none, none, some false, some false, some false, some false, some false, some false, some false, some false, some false, some false] : List (Option Bool)).getD q none
def a_int (q : Nat) : Option Bool := ([none, none, none, none, none, none, none, none, none, none, none, none, some false, some false, some false, some false, some false, some false, some false, some false, some false, some false] : List (Option Bool)).getD q none
def a_list (q : Nat) : Option Bool := ([none, none, none, none, none, none, none, none, none, none, none, none, some false, some false, some false, some false, some false, some false, some false, some false, some false, some false] : List (Option Bool)).getD q none
def a_str (q : Nat) : Option Bool := ([none, none, none, none, none, none, none, none, none, none, none, none, some false, some false, some false, some false, some false, some false, some false, some false, some false, some false] : List (Option Bool)).getD q none
def a_tuple (q : Nat) : Option Bool := ([none, none, none, none, none, none, none, none, none, none, none, none, some false, some false, some false, some false, some false, some false, some false, some false, some false, some false] : List (Option Bool)).getD q none
def em_NoStitch (q : Nat) : Option Bool := ([none, some true, none, none, none, none, none, some false, none, none, none, none, none, none, none, none, none, none, none, none, none, none] : List (Option Bool)).getD q none
def e_NoChart (q : Nat) : Option Bool := ([none, some false, none, none, none, none, none, some true, none, none, none, none, none, none, none, none, none, none, none, none, none, none] : List (Option Bool)).getD q none
def e_ValueError (q : Nat) : Option Bool := ([none, some true, none, none, none, none, none, some true, none, none, none, none, none, none, none, none, none, none, none, none, none, none] : List (Option Bool)).getD q none
def e_NoPlace (q : Nat) : Option Bool := ([none, some false, none, none, none, none, none, some false, none, none, none, none, none, none, none, none, none, none, none, none, none, none] : List (Option Bool)).getD q none
def e_NoName (q : Nat) : Option Bool := ([none, some false, none, none, none, none, none, some false, none, none, none, none, none, none, none, none, none, none, none, none, none, none] : List (Option Bool)).getD q none
def e_NoRow (q : Nat) : Option Bool := ([none, some false, none, none, none, none, none, some false, none, none, none, none, none, none, none, none, none, none, none, none, none, none] : List (Option Bool)).getD q none
def e_Tangle (q : Nat) : Option Bool := ([none, some false, none, none, none, none, none, some false, none, none, none, none, none, none, none, none, none, none, none, none, none, none] : List (Option Bool)).getD q none
def e_NotLying (q : Nat) : Option Bool := ([none, some false, none, none, none, none, none, some false, none, none, none, none, none, none, none, none, none, none, none, none, none, none] : List (Option Bool)).getD q none
def e_Miscount (q : Nat) : Option Bool := ([none, some false, none, none, none, none, none, some false, none, none, none, none, none, none, none, none, none, none, none, none, none, none] : List (Option Bool)).getD q none
def e_TooMany (q : Nat) : Option Bool := ([none, some false, none, none, none, none, none, some false, none, none, none, none, none, none, none, none, none, none, none, none, none, none] : List (Option Bool)).getD q none
def e_NoPattern (q : Nat) : Option Bool := ([none, some false, none, none, none, none, none, some false, none, none, none, none, none, none, none, none, none, none, none, none, none, none] : List (Option Bool)).getD q none
def e_NoSum (q : Nat) : Option Bool := ([none, some false, none, none, none, none, none, some false, none, none, none, none, none, none, none, none, none, none, none, none, none, none] : List (Option Bool)).getD q none
def e_NoStitch (q : Nat) : Option Bool := ([none, some true, none, none, none, none, none, some false, none, none, none, none, none, none, none, none, none, none, none, none, none, none] : List (Option Bool)).getD q none
def em_StitchError (q : Nat) : Option Bool := ([none, some true, none, none, none, none, none, some true, none, none, none, none, none, none, none, none, none, none, none, none, none, none] : List (Option Bool)).getD q none
theorem sc_Stitch_mark : FnScope ["self"] ["self"] (defScope st_Stitch_mark) := ⟨rfl, rfl, rfl, by decide +kernel, rfl, by decide +kernel, by decide +kernel⟩
@[simp] def m_Stitch_mark : MD Fl :=
  (sSeq (sRet (mC (.str "")))
  sNext)
theorem b_Stitch_mark {W : Wd}  : ∀ F E X, Sx W ⟨["self"], defScope st_Stitch_mark, fun _ => true⟩ E X → PSs X (defBody st_Stitch_mark) (TSx (W.g.wF F) E (m_Stitch_mark)) := fun F E X b =>
  (ms_cons (ms_ret r_str)
  ms_nil)
def s_Stitch_mark (ds : List D) (s : Sto) : Rs D := pgD (callM 1 m_Stitch_mark) ds s
theorem k_Stitch_mark : ∀ ds s, s_Stitch_mark ds s = .bad ∨ pgD (callM 1 m_Stitch_mark) ds s = s_Stitch_mark ds s := fun _ _ => .inr rfl
theorem sc_letter_of : FnScope ["side", "front", "back"] ["side", "front", "back"] (defScope st_letter_of) := ⟨rfl, rfl, rfl, by decide +kernel, rfl, by decide +kernel, by decide +kernel⟩
@[simp] def m_letter_of : MD Fl :=
  (sSeq (sIf (mTest (mBin (Cm.sem .eq) (mVar 0) (mC (.int 1)))) (sSeq (sRet (mVar 1))
  sNext) sNext)
  (sSeq (sRet (mVar 2))
  sNext))
theorem b_letter_of {W : Wd}  : ∀ F E X, Sx W ⟨["side", "front", "back"], defScope st_letter_of, fun _ => true⟩ E X → PSs X (defBody st_letter_of) (TSx (W.g.wF F) E (m_letter_of)) := fun F E X b =>
  (ms_cons (ms_if (b.tcmp .eq rfl rfl (b.var (i := 0) (by decide +kernel)) r_int) (ms_cons (ms_ret (b.var (i := 1) (by decide +kernel)))
  ms_nil) ms_nil)
  (ms_cons (ms_ret (b.var (i := 2) (by decide +kernel)))
  ms_nil))
def s_letter_of : List D → Sto → Rs D := callM 3 m_letter_of
theorem k_letter_of : ∀ ds s, s_letter_of ds s = .bad ∨ callM 3 m_letter_of ds s = s_letter_of ds s := fun _ _ => .inr rfl
theorem sc_Plain_mark : FnScope ["self"] ["self"] (defScope st_Plain_mark) := ⟨rfl, rfl, rfl, by decide +kernel, rfl, by decide +kernel, by decide +kernel⟩
@[simp] def m_Plain_mark : MD Fl :=
  (sSeq (sRet (mCall s_letter_of [] (mCons (mFldD x_side (mVar 0)) (mCons (mC (.str "k")) (mCons (mC (.str "p")) mNil)))))
  sNext)
theorem b_Plain_mark {W : Wd} (f_side : ∀ q k, x_side q = some k → ClsOk W.g q ∧ (W.g.cf q)[k]? = some "side") (h_letter_of_0 : CallW W "letter_of" 3 s_letter_of []) : ∀ F E X, Sx W ⟨["self"], defScope st_Plain_mark, fun _ => true⟩ E X → PSs X (defBody st_Plain_mark) (TSx (W.g.wF F) E (m_Plain_mark)) := fun F E X b =>
  (ms_cons (ms_ret (b.call h_letter_of_0 (by decide +kernel) (ar_cons (b.fldD f_side (b.var (i := 0) (by decide +kernel)) rfl) (ar_cons r_str (ar_cons r_str ar_nil rfl) rfl) rfl) rfl))
  ms_nil)
def s_Plain_mark (ds : List D) (s : Sto) : Rs D := pgD (callM 1 m_Plain_mark) ds s
theorem k_Plain_mark : ∀ ds s, s_Plain_mark ds s = .bad ∨ pgD (callM 1 m_Plain_mark) ds s = s_Plain_mark ds s := fun _ _ => .inr rfl
theorem sc_Slip_mark : FnScope ["self"] ["self"] (defScope st_Slip_mark) := ⟨rfl, rfl, rfl, by decide +kernel, rfl, by decide +kernel, by decide +kernel⟩
@[simp] def m_Slip_mark : MD Fl :=
  (sSeq (sRet (mC (.str "s")))
  sNext)
theorem b_Slip_mark {W : Wd}  : ∀ F E X, Sx W ⟨["self"], defScope st_Slip_mark, fun _ => true⟩ E X → PSs X (defBody st_Slip_mark) (TSx (W.g.wF F) E (m_Slip_mark)) := fun F E X b =>
  (ms_cons (ms_ret r_str)
  ms_nil)
def s_Slip_mark (ds : List D) (s : Sto) : Rs D := pgD (callM 1 m_Slip_mark) ds s
theorem k_Slip_mark : ∀ ds s, s_Slip_mark ds s = .bad ∨ pgD (callM 1 m_Slip_mark) ds s = s_Slip_mark ds s := fun _ _ => .inr rfl
theorem sc_Over_mark : FnScope ["self"] ["self"] (defScope st_Over_mark) := ⟨rfl, rfl, rfl, by decide +kernel, rfl, by decide +kernel, by decide +kernel⟩
@[simp] def m_Over_mark : MD Fl :=
  (sSeq (sRet (mC (.str "o")))
  sNext)
theorem b_Over_mark {W : Wd}  : ∀ F E X, Sx W ⟨["self"], defScope st_Over_mark, fun _ => true⟩ E X → PSs X (defBody st_Over_mark) (TSx (W.g.wF F) E (m_Over_mark)) := fun F E X b =>
  (ms_cons (ms_ret r_str)
  ms_nil)
def s_Over_mark (ds : List D) (s : Sto) : Rs D := pgD (callM 1 m_Over_mark) ds s
theorem k_Over_mark : ∀ ds s, s_Over_mark ds s = .bad ∨ pgD (callM 1 m_Over_mark) ds s = s_Over_mark ds s := fun _ _ => .inr rfl
theorem sc_Lean_mark : FnScope ["self"] ["self"] (defScope st_Lean_mark) := ⟨rfl, rfl, rfl, by decide +kernel, rfl, by decide +kernel, by decide +kernel⟩
@[simp] def m_Lean_mark : MD Fl :=
  (sSeq (sRet (mBin (addD false) (mBin (addD false) (mCall s_letter_of [] (mCons (mFldD x_side (mVar 0)) (mCons (mC (.str "k")) (mCons (mC (.str "p")) mNil)))) (mCallB (BI.sem (.str)) (mCons (mFldD x_many (mVar 0)) mNil))) (mFldD x_way (mVar 0))))
  sNext)
theorem b_Lean_mark {W : Wd} (f_side : ∀ q k, x_side q = some k → ClsOk W.g q ∧ (W.g.cf q)[k]? = some "side") (h_letter_of_0 : CallW W "letter_of" 3 s_letter_of []) (z_str : BltW W "str") (f_many : ∀ q k, x_many q = some k → ClsOk W.g q ∧ (W.g.cf q)[k]? = some "many") (f_way : ∀ q k, x_way q = some k → ClsOk W.g q ∧ (W.g.cf q)[k]? = some "way") : ∀ F E X, Sx W ⟨["self"], defScope st_Lean_mark, fun _ => true⟩ E X → PSs X (defBody st_Lean_mark) (TSx (W.g.wF F) E (m_Lean_mark)) := fun F E X b =>
  (ms_cons (ms_ret (b.add false (b.add false (b.call h_letter_of_0 (by decide +kernel) (ar_cons (b.fldD f_side (b.var (i := 0) (by decide +kernel)) rfl) (ar_cons r_str (ar_cons r_str ar_nil rfl) rfl) rfl) rfl) (b.bi (.str) rfl z_str (by decide +kernel) (ar_cons (b.fldD f_many (b.var (i := 0) (by decide +kernel)) rfl) ar_nil rfl))) (b.fldD f_way (b.var (i := 0) (by decide +kernel)) rfl)))
  ms_nil)
def s_Lean_mark (ds : List D) (s : Sto) : Rs D := pgD (callM 1 m_Lean_mark) ds s
theorem k_Lean_mark : ∀ ds s, s_Lean_mark ds s = .bad ∨ pgD (callM 1 m_Lean_mark) ds s = s_Lean_mark ds s := fun _ _ => .inr rfl
theorem sc_Grow_mark : FnScope ["self"] ["self"] (defScope st_Grow_mark) := ⟨rfl, rfl, rfl, by decide +kernel, rfl, by decide +kernel, by decide +kernel⟩
@[simp] def m_Grow_mark : MD Fl :=
  (sSeq (sRet (mBin (addD false) (mBin (addD false) (mCall s_letter_of [] (mCons (mFldD x_side (mVar 0)) (mCons (mC (.str "k")) (mCons (mC (.str "p")) mNil)))) (mC (.str "x"))) (mCallB (BI.sem (.str)) (mCons (mFldD x_many (mVar 0)) mNil))))
  sNext)
theorem b_Grow_mark {W : Wd} (f_side : ∀ q k, x_side q = some k → ClsOk W.g q ∧ (W.g.cf q)[k]? = some "side") (h_letter_of_0 : CallW W "letter_of" 3 s_letter_of []) (z_str : BltW W "str") (f_many : ∀ q k, x_many q = some k → ClsOk W.g q ∧ (W.g.cf q)[k]? = some "many") : ∀ F E X, Sx W ⟨["self"], defScope st_Grow_mark, fun _ => true⟩ E X → PSs X (defBody st_Grow_mark) (TSx (W.g.wF F) E (m_Grow_mark)) := fun F E X b =>
  (ms_cons (ms_ret (b.add false (b.add false (b.call h_letter_of_0 (by decide +kernel) (ar_cons (b.fldD f_side (b.var (i := 0) (by decide +kernel)) rfl) (ar_cons r_str (ar_cons r_str ar_nil rfl) rfl) rfl) rfl) r_str) (b.bi (.str) rfl z_str (by decide +kernel) (ar_cons (b.fldD f_many (b.var (i := 0) (by decide +kernel)) rfl) ar_nil rfl))))
  ms_nil)
def s_Grow_mark (ds : List D) (s : Sto) : Rs D := pgD (callM 1 m_Grow_mark) ds s
theorem k_Grow_mark : ∀ ds s, s_Grow_mark ds s = .bad ∨ pgD (callM 1 m_Grow_mark) ds s = s_Grow_mark ds s := fun _ _ => .inr rfl
theorem sc_Cross_mark : FnScope ["self"] ["self"] (defScope st_Cross_mark) := ⟨rfl, rfl, rfl, by decide +kernel, rfl, by decide +kernel, by decide +kernel⟩
@[simp] def m_Cross_mark : MD Fl :=
  (sSeq (sRet (mBin (addD false) (mBin (addD false) (mBin (addD false) (mCall s_letter_of [] (mCons (mFldD x_side (mVar 0)) (mCons (mC (.str "c")) (mCons (mC (.str "q")) mNil)))) (mCallB (BI.sem (.str)) (mCons (mFldD x_first (mVar 0)) mNil))) (mFldD x_way (mVar 0))) (mCallB (BI.sem (.str)) (mCons (mFldD x_second (mVar 0)) mNil))))
  sNext)
theorem b_Cross_mark {W : Wd} (f_side : ∀ q k, x_side q = some k → ClsOk W.g q ∧ (W.g.cf q)[k]? = some "side") (h_letter_of_0 : CallW W "letter_of" 3 s_letter_of []) (z_str : BltW W "str") (f_first : ∀ q k, x_first q = some k → ClsOk W.g q ∧ (W.g.cf q)[k]? = some "first") (f_way : ∀ q k, x_way q = some k → ClsOk W.g q ∧ (W.g.cf q)[k]? = some "way") (f_second : ∀ q k, x_second q = some k → ClsOk W.g q ∧ (W.g.cf q)[k]? = some "second") : ∀ F E X, Sx W ⟨["self"], defScope st_Cross_mark, fun _ => true⟩ E X → PSs X (defBody st_Cross_mark) (TSx (W.g.wF F) E (m_Cross_mark)) := fun F E X b =>
  (ms_cons (ms_ret (b.add false (b.add false (b.add false (b.call h_letter_of_0 (by decide +kernel) (ar_cons (b.fldD f_side (b.var (i := 0) (by decide +kernel)) rfl) (ar_cons r_str (ar_cons r_str ar_nil rfl) rfl) rfl) rfl) (b.bi (.str) rfl z_str (by decide +kernel) (ar_cons (b.fldD f_first (b.var (i := 0) (by decide +kernel)) rfl) ar_nil rfl))) (b.fldD f_way (b.var (i := 0) (by decide +kernel)) rfl)) (b.bi (.str) rfl z_str (by decide +kernel) (ar_cons (b.fldD f_second (b.var (i := 0) (by decide +kernel)) rfl) ar_nil rfl))))
  ms_nil)
def s_Cross_mark (ds : List D) (s : Sto) : Rs D := pgD (callM 1 m_Cross_mark) ds s
theorem k_Cross_mark : ∀ ds s, s_Cross_mark ds s = .bad ∨ pgD (callM 1 m_Cross_mark) ds s = s_Cross_mark ds s := fun _ _ => .inr rfl
theorem sc_Off_mark : FnScope ["self"] ["self"] (defScope st_Off_mark) := ⟨rfl, rfl, rfl, by decide +kernel, rfl, by decide +kernel, by decide +kernel⟩
@[simp] def m_Off_mark : MD Fl :=
  (sSeq (sRet (mC (.str "b")))
  sNext)
theorem b_Off_mark {W : Wd}  : ∀ F E X, Sx W ⟨["self"], defScope st_Off_mark, fun _ => true⟩ E X → PSs X (defBody st_Off_mark) (TSx (W.g.wF F) E (m_Off_mark)) := fun F E X b =>
  (ms_cons (ms_ret r_str)
  ms_nil)
def s_Off_mark (ds : List D) (s : Sto) : Rs D := pgD (callM 1 m_Off_mark) ds s
theorem k_Off_mark : ∀ ds s, s_Off_mark ds s = .bad ∨ pgD (callM 1 m_Off_mark) ds s = s_Off_mark ds s := fun _ _ => .inr rfl
theorem sc_Keep_mark : FnScope ["self"] ["self"] (defScope st_Keep_mark) := ⟨rfl, rfl, rfl, by decide +kernel, rfl, by decide +kernel, by decide +kernel⟩
@[simp] def m_Keep_mark : MD Fl :=
  (sSeq (sRet (mBin (addD false) (mC (.str "h")) (mFldD x_keeper (mVar 0))))
  sNext)
theorem b_Keep_mark {W : Wd} (f_keeper : ∀ q k, x_keeper q = some k → ClsOk W.g q ∧ (W.g.cf q)[k]? = some "keeper") : ∀ F E X, Sx W ⟨["self"], defScope st_Keep_mark, fun _ => true⟩ E X → PSs X (defBody st_Keep_mark) (TSx (W.g.wF F) E (m_Keep_mark)) := fun F E X b =>
  (ms_cons (ms_ret (b.add false r_str (b.fldD f_keeper (b.var (i := 0) (by decide +kernel)) rfl)))
  ms_nil)
def s_Keep_mark (ds : List D) (s : Sto) : Rs D := pgD (callM 1 m_Keep_mark) ds s
theorem k_Keep_mark : ∀ ds s, s_Keep_mark ds s = .bad ∨ pgD (callM 1 m_Keep_mark) ds s = s_Keep_mark ds s := fun _ _ => .inr rfl
theorem sc_Fetch_mark : FnScope ["self"] ["self"] (defScope st_Fetch_mark) := ⟨rfl, rfl, rfl, by decide +kernel, rfl, by decide +kernel, by decide +kernel⟩
@[simp] def m_Fetch_mark : MD Fl :=
  (sSeq (sRet (mBin (addD false) (mC (.str "f")) (mFldD x_keeper (mVar 0))))
  sNext)
theorem b_Fetch_mark {W : Wd} (f_keeper : ∀ q k, x_keeper q = some k → ClsOk W.g q ∧ (W.g.cf q)[k]? = some "keeper") : ∀ F E X, Sx W ⟨["self"], defScope st_Fetch_mark, fun _ => true⟩ E X → PSs X (defBody st_Fetch_mark) (TSx (W.g.wF F) E (m_Fetch_mark)) := fun F E X b =>
  (ms_cons (ms_ret (b.add false r_str (b.fldD f_keeper (b.var (i := 0) (by decide +kernel)) rfl)))
  ms_nil)
def s_Fetch_mark (ds : List D) (s : Sto) : Rs D := pgD (callM 1 m_Fetch_mark) ds s
theorem k_Fetch_mark : ∀ ds s, s_Fetch_mark ds s = .bad ∨ pgD (callM 1 m_Fetch_mark) ds s = s_Fetch_mark ds s := fun _ _ => .inr rfl
theorem sc_Fetch_init : FnScope ["self", "keeper"] ["self", "keeper"] (defScope st_Fetch_init) := ⟨rfl, rfl, rfl, by decide +kernel, rfl, by decide +kernel, by decide +kernel⟩
@[simp] def m_Fetch_init : MD Fl :=
  (sSeq (sSetFD x_keeper (mVar 1) (mVar 0))
  sNext)
theorem b_Fetch_init {W : Wd} (f_keeper : ∀ q k, x_keeper q = some k → ClsOk W.g q ∧ (W.g.cf q)[k]? = some "keeper") : ∀ F E X, Sx W ⟨["self", "keeper"], defScope st_Fetch_init, fun _ => true⟩ E X → PSs X (defBody st_Fetch_init) (TSx (W.g.wF F) E (m_Fetch_init)) := fun F E X b =>
  (ms_cons (b.setFD f_keeper (b.var (i := 0) (by decide +kernel)) (b.var (i := 1) (by decide +kernel)))
  ms_nil)
def s_Fetch_init : List D → Sto → Rs D := callM 2 m_Fetch_init
theorem k_Fetch_init : ∀ ds s, s_Fetch_init ds s = .bad ∨ callM 2 m_Fetch_init ds s = s_Fetch_init ds s := fun _ _ => .inr rfl
theorem sc_Keep_init : FnScope ["self", "keeper"] ["self", "keeper"] (defScope st_Keep_init) := ⟨rfl, rfl, rfl, by decide +kernel, rfl, by decide +kernel, by decide +kernel⟩
@[simp] def m_Keep_init : MD Fl :=
  (sSeq (sSetFD x_keeper (mVar 1) (mVar 0))
  sNext)
theorem b_Keep_init {W : Wd} (f_keeper : ∀ q k, x_keeper q = some k → ClsOk W.g q ∧ (W.g.cf q)[k]? = some "keeper") : ∀ F E X, Sx W ⟨["self", "keeper"], defScope st_Keep_init, fun _ => true⟩ E X → PSs X (defBody st_Keep_init) (TSx (W.g.wF F) E (m_Keep_init)) := fun F E X b =>
  (ms_cons (b.setFD f_keeper (b.var (i := 0) (by decide +kernel)) (b.var (i := 1) (by decide +kernel)))
  ms_nil)
def s_Keep_init : List D → Sto → Rs D := callM 2 m_Keep_init
theorem k_Keep_init : ∀ ds s, s_Keep_init ds s = .bad ∨ callM 2 m_Keep_init ds s = s_Keep_init ds s := fun _ _ => .inr rfl
theorem sc_Plain_init : FnScope ["self", "side"] ["self", "side"] (defScope st_Plain_init) := ⟨rfl, rfl, rfl, by decide +kernel, rfl, by decide +kernel, by decide +kernel⟩
@[simp] def m_Plain_init : MD Fl :=
  (sSeq (sSetFD x_side (mVar 1) (mVar 0))
  sNext)
theorem b_Plain_init {W : Wd} (f_side : ∀ q k, x_side q = some k → ClsOk W.g q ∧ (W.g.cf q)[k]? = some "side") : ∀ F E X, Sx W ⟨["self", "side"], defScope st_Plain_init, fun _ => true⟩ E X → PSs X (defBody st_Plain_init) (TSx (W.g.wF F) E (m_Plain_init)) := fun F E X b =>
  (ms_cons (b.setFD f_side (b.var (i := 0) (by decide +kernel)) (b.var (i := 1) (by decide +kernel)))
  ms_nil)
def s_Plain_init : List D → Sto → Rs D := callM 2 m_Plain_init
theorem k_Plain_init : ∀ ds s, s_Plain_init ds s = .bad ∨ callM 2 m_Plain_init ds s = s_Plain_init ds s := fun _ _ => .inr rfl
theorem sc_short_one : FnScope ["mark"] ["mark"] (defScope st_short_one) := ⟨rfl, rfl, rfl, by decide +kernel, rfl, by decide +kernel, by decide +kernel⟩
@[simp] def m_short_one : MD Fl :=
  (sSeq (sIf (mTest (mBin (Cm.sem .eq) (mVar 0) (mC (.str "k")))) (sSeq (sRet (mCall (mkD 13 s_Plain_init) [] (mCons (mC (.int 1)) mNil)))
  sNext) sNext)
  (sSeq (sIf (mTest (mBin (Cm.sem .eq) (mVar 0) (mC (.str "p")))) (sSeq (sRet (mCall (mkD 13 s_Plain_init) [] (mCons (mNeg (mC (.int 1))) mNil)))
  sNext) sNext)
  (sSeq (sIf (mTest (mBin (Cm.sem .eq) (mVar 0) (mC (.str "s")))) (sSeq (sRet (mMkP 14))
  sNext) sNext)
  (sSeq (sIf (mTest (mBin (Cm.sem .eq) (mVar 0) (mC (.str "o")))) (sSeq (sRet (mMkP 15))
  sNext) sNext)
  (sSeq (sIf (mTest (mBin (Cm.sem .eq) (mVar 0) (mC (.str "b")))) (sSeq (sRet (mMkP 19))
  sNext) sNext)
  (sSeq (sIf (mTest (mAnd (mBin (Cm.sem .eq) (mCallB (BI.sem (.len)) (mCons (mVar 0) mNil)) (mC (.int 2))) (mBin (Cm.sem .in_) (mBin idxD (mVar 0) (mC (.int 1))) (mC (.str "wxyz"))))) (sSeq (sIf (mTest (mBin (Cm.sem .eq) (mBin idxD (mVar 0) (mC (.int 0))) (mC (.str "h")))) (sSeq (sRet (mCall (mkD 20 s_Keep_init) [] (mCons (mBin idxD (mVar 0) (mC (.int 1))) mNil)))
  sNext) sNext)
  (sSeq (sIf (mTest (mBin (Cm.sem .eq) (mBin idxD (mVar 0) (mC (.int 0))) (mC (.str "f")))) (sSeq (sRet (mCall (mkD 21 s_Fetch_init) [] (mCons (mBin idxD (mVar 0) (mC (.int 1))) mNil)))
  sNext) sNext)
  sNext)) sNext)
  (sSeq (sRet (mC .non))
  sNext)))))))
theorem b_short_one {W : Wd} (z_len : BltW W "len") (g_KEEPERS : GlbW W "KEEPERS" (.str "wxyz")) (n_Fetch_0 : MakeW W "Fetch" 21 2 s_Fetch_init []) (n_Keep_0 : MakeW W "Keep" 20 2 s_Keep_init []) (n_Off : PlW W "Off" 19) (n_Over : PlW W "Over" 15) (n_Slip : PlW W "Slip" 14) (n_Plain_0 : MakeW W "Plain" 13 2 s_Plain_init []) : ∀ F E X, Sx W ⟨["mark"], defScope st_short_one, fun _ => true⟩ E X → PSs X (defBody st_short_one) (TSx (W.g.wF F) E (m_short_one)) := fun F E X b =>
  (ms_cons (ms_if (b.tcmp .eq rfl rfl (b.var (i := 0) (by decide +kernel)) r_str) (ms_cons (ms_ret (b.make n_Plain_0 (by decide +kernel) (ar_cons r_int ar_nil rfl) rfl))
  ms_nil) ms_nil)
  (ms_cons (ms_if (b.tcmp .eq rfl rfl (b.var (i := 0) (by decide +kernel)) r_str) (ms_cons (ms_ret (b.make n_Plain_0 (by decide +kernel) (ar_cons (me_neg r_int) ar_nil rfl) rfl))
  ms_nil) ms_nil)
  (ms_cons (ms_if (b.tcmp .eq rfl rfl (b.var (i := 0) (by decide +kernel)) r_str) (ms_cons (ms_ret (b.plain n_Slip (by decide +kernel)))
  ms_nil) ms_nil)
  (ms_cons (ms_if (b.tcmp .eq rfl rfl (b.var (i := 0) (by decide +kernel)) r_str) (ms_cons (ms_ret (b.plain n_Over (by decide +kernel)))
  ms_nil) ms_nil)
  (ms_cons (ms_if (b.tcmp .eq rfl rfl (b.var (i := 0) (by decide +kernel)) r_str) (ms_cons (ms_ret (b.plain n_Off (by decide +kernel)))
  ms_nil) ms_nil)
  (ms_cons (ms_if (PW.pt (mt_and (b.tcmp .eq rfl rfl (b.bi (.len) rfl z_len (by decide +kernel) (ar_cons (b.var (i := 0) (by decide +kernel)) ar_nil rfl)) r_int) (pw_and1 (b.tcmp .in_ rfl rfl (b.idx (b.var (i := 0) (by decide +kernel)) r_int rfl) (b.glb g_KEEPERS (by decide +kernel)))))) (ms_cons (ms_if (b.tcmp .eq rfl rfl (b.idx (b.var (i := 0) (by decide +kernel)) r_int rfl) r_str) (ms_cons (ms_ret (b.make n_Keep_0 (by decide +kernel) (ar_cons (b.idx (b.var (i := 0) (by decide +kernel)) r_int rfl) ar_nil rfl) rfl))
  ms_nil) ms_nil)
  (ms_cons (ms_if (b.tcmp .eq rfl rfl (b.idx (b.var (i := 0) (by decide +kernel)) r_int rfl) r_str) (ms_cons (ms_ret (b.make n_Fetch_0 (by decide +kernel) (ar_cons (b.idx (b.var (i := 0) (by decide +kernel)) r_int rfl) ar_nil rfl) rfl))
  ms_nil) ms_nil)
  ms_nil)) ms_nil)
  (ms_cons (ms_ret r_non)
  ms_nil)))))))
def s_short_one : List D → Sto → Rs D := callM 1 m_short_one
theorem k_short_one : ∀ ds s, s_short_one ds s = .bad ∨ callM 1 m_short_one ds s = s_short_one ds s := fun _ _ => .inr rfl
theorem sc_Cross_init : FnScope ["self", "first", "second", "way", "side"] ["self", "first", "second", "way", "side"] (defScope st_Cross_init) := ⟨rfl, rfl, rfl, by decide +kernel, rfl, by decide +kernel, by decide +kernel⟩
@[simp] def m_Cross_init : MD Fl :=
  (sSeq (sSetFD x_first (mVar 1) (mVar 0))
  (sSeq (sSetFD x_second (mVar 2) (mVar 0))
  (sSeq (sSetFD x_way (mVar 3) (mVar 0))
  (sSeq (sSetFD x_side (mVar 4) (mVar 0))
  sNext))))
theorem b_Cross_init {W : Wd} (f_side : ∀ q k, x_side q = some k → ClsOk W.g q ∧ (W.g.cf q)[k]? = some "side") (f_way : ∀ q k, x_way q = some k → ClsOk W.g q ∧ (W.g.cf q)[k]? = some "way") (f_second : ∀ q k, x_second q = some k → ClsOk W.g q ∧ (W.g.cf q)[k]? = some "second") (f_first : ∀ q k, x_first q = some k → ClsOk W.g q ∧ (W.g.cf q)[k]? = some "first") : ∀ F E X, Sx W ⟨["self", "first", "second", "way", "side"], defScope st_Cross_init, fun _ => true⟩ E X → PSs X (defBody st_Cross_init) (TSx (W.g.wF F) E (m_Cross_init)) := fun F E X b =>
  (ms_cons (b.setFD f_first (b.var (i := 0) (by decide +kernel)) (b.var (i := 1) (by decide +kernel)))
  (ms_cons (b.setFD f_second (b.var (i := 0) (by decide +kernel)) (b.var (i := 2) (by decide +kernel)))
  (ms_cons (b.setFD f_way (b.var (i := 0) (by decide +kernel)) (b.var (i := 3) (by decide +kernel)))
  (ms_cons (b.setFD f_side (b.var (i := 0) (by decide +kernel)) (b.var (i := 4) (by decide +kernel)))
  ms_nil))))
def s_Cross_init : List D → Sto → Rs D := callM 5 m_Cross_init
theorem k_Cross_init : ∀ ds s, s_Cross_init ds s = .bad ∨ callM 5 m_Cross_init ds s = s_Cross_init ds s := fun _ _ => .inr rfl
theorem sc_Grow_init : FnScope ["self", "many", "side"] ["self", "many", "side"] (defScope st_Grow_init) := ⟨rfl, rfl, rfl, by decide +kernel, rfl, by decide +kernel, by decide +kernel⟩
@[simp] def m_Grow_init : MD Fl :=
  (sSeq (sSetFD x_many (mVar 1) (mVar 0))
  (sSeq (sSetFD x_side (mVar 2) (mVar 0))
  sNext))
theorem b_Grow_init {W : Wd} (f_side : ∀ q k, x_side q = some k → ClsOk W.g q ∧ (W.g.cf q)[k]? = some "side") (f_many : ∀ q k, x_many q = some k → ClsOk W.g q ∧ (W.g.cf q)[k]? = some "many") : ∀ F E X, Sx W ⟨["self", "many", "side"], defScope st_Grow_init, fun _ => true⟩ E X → PSs X (defBody st_Grow_init) (TSx (W.g.wF F) E (m_Grow_init)) := fun F E X b =>
  (ms_cons (b.setFD f_many (b.var (i := 0) (by decide +kernel)) (b.var (i := 1) (by decide +kernel)))
  (ms_cons (b.setFD f_side (b.var (i := 0) (by decide +kernel)) (b.var (i := 2) (by decide +kernel)))
  ms_nil))
def s_Grow_init : List D → Sto → Rs D := callM 3 m_Grow_init
theorem k_Grow_init : ∀ ds s, s_Grow_init ds s = .bad ∨ callM 3 m_Grow_init ds s = s_Grow_init ds s := fun _ _ => .inr rfl
theorem sc_Lean_init : FnScope ["self", "many", "way", "side"] ["self", "many", "way", "side"] (defScope st_Lean_init) := ⟨rfl, rfl, rfl, by decide +kernel, rfl, by decide +kernel, by decide +kernel⟩
@[simp] def m_Lean_init : MD Fl :=
  (sSeq (sSetFD x_many (mVar 1) (mVar 0))
  (sSeq (sSetFD x_way (mVar 2) (mVar 0))
  (sSeq (sSetFD x_side (mVar 3) (mVar 0))
  sNext)))
theorem b_Lean_init {W : Wd} (f_side : ∀ q k, x_side q = some k → ClsOk W.g q ∧ (W.g.cf q)[k]? = some "side") (f_way : ∀ q k, x_way q = some k → ClsOk W.g q ∧ (W.g.cf q)[k]? = some "way") (f_many : ∀ q k, x_many q = some k → ClsOk W.g q ∧ (W.g.cf q)[k]? = some "many") : ∀ F E X, Sx W ⟨["self", "many", "way", "side"], defScope st_Lean_init, fun _ => true⟩ E X → PSs X (defBody st_Lean_init) (TSx (W.g.wF F) E (m_Lean_init)) := fun F E X b =>
  (ms_cons (b.setFD f_many (b.var (i := 0) (by decide +kernel)) (b.var (i := 1) (by decide +kernel)))
  (ms_cons (b.setFD f_way (b.var (i := 0) (by decide +kernel)) (b.var (i := 2) (by decide +kernel)))
  (ms_cons (b.setFD f_side (b.var (i := 0) (by decide +kernel)) (b.var (i := 3) (by decide +kernel)))
  ms_nil)))
def s_Lean_init : List D → Sto → Rs D := callM 4 m_Lean_init
theorem k_Lean_init : ∀ ds s, s_Lean_init ds s = .bad ∨ callM 4 m_Lean_init ds s = s_Lean_init ds s := fun _ _ => .inr rfl
theorem sc_long_one : FnScope ["mark", "side"] ["mark"] (defScope st_long_one) := ⟨rfl, rfl, rfl, by decide +kernel, rfl, by decide +kernel, by decide +kernel⟩
@[simp] def m_long_one : MD Fl :=
  (sSeq (sAsg (mNeg (mC (.int 1))) (tgName 1))
  (sSeq (sIf (mTest (mBin (Cm.sem .in_) (mBin idxD (mVar 0) (mC (.int 0))) (mC (.str "kc")))) (sSeq (sAsg (mC (.int 1)) (tgName 1))
  sNext) sNext)
  (sSeq (sIf (mTest (mAnd (mBin (Cm.sem .eq) (mCallB (BI.sem (.len)) (mCons (mVar 0) mNil)) (mC (.int 3))) (mBin (Cm.sem .in_) (mBin idxD (mVar 0) (mC (.int 0))) (mC (.str "kp"))))) (sSeq (sIf (mTest (mAnd (mBin (Cm.sem .in_) (mBin idxD (mVar 0) (mC (.int 1))) (mC (.str "234"))) (mBin (Cm.sem .in_) (mBin idxD (mVar 0) (mC (.int 2))) (mC (.str "rl"))))) (sSeq (sRet (mCall (mkD 16 s_Lean_init) [] (mCons (mCallB (BI.sem (.int)) (mCons (mBin idxD (mVar 0) (mC (.int 1))) mNil)) (mCons (mBin idxD (mVar 0) (mC (.int 2))) (mCons (mVar 1) mNil)))))
  sNext) sNext)
  (sSeq (sIf (mTest (mAnd (mBin (Cm.sem .eq) (mBin idxD (mVar 0) (mC (.int 1))) (mC (.str "x"))) (mBin (Cm.sem .in_) (mBin idxD (mVar 0) (mC (.int 2))) (mC (.str "234"))))) (sSeq (sRet (mCall (mkD 17 s_Grow_init) [] (mCons (mCallB (BI.sem (.int)) (mCons (mBin idxD (mVar 0) (mC (.int 2))) mNil)) (mCons (mVar 1) mNil))))
  sNext) sNext)
  sNext)) sNext)
  (sSeq (sIf (mTest (mAnd (mBin (Cm.sem .eq) (mCallB (BI.sem (.len)) (mCons (mVar 0) mNil)) (mC (.int 4))) (mAnd (mBin (Cm.sem .in_) (mBin idxD (mVar 0) (mC (.int 0))) (mC (.str "cq"))) (mBin (Cm.sem .in_) (mBin idxD (mVar 0) (mC (.int 2))) (mC (.str "fb")))))) (sSeq (sIf (mTest (mAnd (mBin (Cm.sem .in_) (mBin idxD (mVar 0) (mC (.int 1))) (mC (.str "1234"))) (mBin (Cm.sem .in_) (mBin idxD (mVar 0) (mC (.int 3))) (mC (.str "1234"))))) (sSeq (sRet (mCall (mkD 18 s_Cross_init) [] (mCons (mCallB (BI.sem (.int)) (mCons (mBin idxD (mVar 0) (mC (.int 1))) mNil)) (mCons (mCallB (BI.sem (.int)) (mCons (mBin idxD (mVar 0) (mC (.int 3))) mNil)) (mCons (mBin idxD (mVar 0) (mC (.int 2))) (mCons (mVar 1) mNil))))))
  sNext) sNext)
  sNext) sNext)
  (sSeq (sRet (mC .non))
  sNext)))))
theorem b_long_one {W : Wd} (z_len : BltW W "len") (n_Cross_0 : MakeW W "Cross" 18 5 s_Cross_init []) (z_int : BltW W "int") (n_Grow_0 : MakeW W "Grow" 17 3 s_Grow_init []) (n_Lean_0 : MakeW W "Lean" 16 4 s_Lean_init []) : ∀ F E X, Sx W ⟨["mark", "side"], defScope st_long_one, fun _ => true⟩ E X → PSs X (defBody st_long_one) (TSx (W.g.wF F) E (m_long_one)) := fun F E X b =>
  (ms_cons (ms_asg (vs := [1]) (me_neg r_int) (b.tname (i := 1) (by decide +kernel) (by decide)) rfl (.inl rfl) rfl)
  (ms_cons (ms_if (b.tcmp .in_ rfl rfl (b.idx (b.var (i := 0) (by decide +kernel)) r_int rfl) r_str) (ms_cons (ms_asg (vs := [1]) r_int (b.tname (i := 1) (by decide +kernel) (by decide)) rfl (.inl rfl) rfl)
  ms_nil) ms_nil)
  (ms_cons (ms_if (PW.pt (mt_and (b.tcmp .eq rfl rfl (b.bi (.len) rfl z_len (by decide +kernel) (ar_cons (b.var (i := 0) (by decide +kernel)) ar_nil rfl)) r_int) (pw_and1 (b.tcmp .in_ rfl rfl (b.idx (b.var (i := 0) (by decide +kernel)) r_int rfl) r_str)))) (ms_cons (ms_if (PW.pt (mt_and (b.tcmp .in_ rfl rfl (b.idx (b.var (i := 0) (by decide +kernel)) r_int rfl) r_str) (pw_and1 (b.tcmp .in_ rfl rfl (b.idx (b.var (i := 0) (by decide +kernel)) r_int rfl) r_str)))) (ms_cons (ms_ret (b.make n_Lean_0 (by decide +kernel) (ar_cons (b.bi (.int) rfl z_int (by decide +kernel) (ar_cons (b.idx (b.var (i := 0) (by decide +kernel)) r_int rfl) ar_nil rfl)) (ar_cons (b.idx (b.var (i := 0) (by decide +kernel)) r_int rfl) (ar_cons (b.var (i := 1) (by decide +kernel)) ar_nil rfl) rfl) rfl) rfl))
  ms_nil) ms_nil)
  (ms_cons (ms_if (PW.pt (mt_and (b.tcmp .eq rfl rfl (b.idx (b.var (i := 0) (by decide +kernel)) r_int rfl) r_str) (pw_and1 (b.tcmp .in_ rfl rfl (b.idx (b.var (i := 0) (by decide +kernel)) r_int rfl) r_str)))) (ms_cons (ms_ret (b.make n_Grow_0 (by decide +kernel) (ar_cons (b.bi (.int) rfl z_int (by decide +kernel) (ar_cons (b.idx (b.var (i := 0) (by decide +kernel)) r_int rfl) ar_nil rfl)) (ar_cons (b.var (i := 1) (by decide +kernel)) ar_nil rfl) rfl) rfl))
  ms_nil) ms_nil)
  ms_nil)) ms_nil)
  (ms_cons (ms_if (PW.pt (mt_and (b.tcmp .eq rfl rfl (b.bi (.len) rfl z_len (by decide +kernel) (ar_cons (b.var (i := 0) (by decide +kernel)) ar_nil rfl)) r_int) (mt_and (b.tcmp .in_ rfl rfl (b.idx (b.var (i := 0) (by decide +kernel)) r_int rfl) r_str) (pw_and1 (b.tcmp .in_ rfl rfl (b.idx (b.var (i := 0) (by decide +kernel)) r_int rfl) r_str))))) (ms_cons (ms_if (PW.pt (mt_and (b.tcmp .in_ rfl rfl (b.idx (b.var (i := 0) (by decide +kernel)) r_int rfl) r_str) (pw_and1 (b.tcmp .in_ rfl rfl (b.idx (b.var (i := 0) (by decide +kernel)) r_int rfl) r_str)))) (ms_cons (ms_ret (b.make n_Cross_0 (by decide +kernel) (ar_cons (b.bi (.int) rfl z_int (by decide +kernel) (ar_cons (b.idx (b.var (i := 0) (by decide +kernel)) r_int rfl) ar_nil rfl)) (ar_cons (b.bi (.int) rfl z_int (by decide +kernel) (ar_cons (b.idx (b.var (i := 0) (by decide +kernel)) r_int rfl) ar_nil rfl)) (ar_cons (b.idx (b.var (i := 0) (by decide +kernel)) r_int rfl) (ar_cons (b.var (i := 1) (by decide +kernel)) ar_nil rfl) rfl) rfl) rfl) rfl))
  ms_nil) ms_nil)
  ms_nil) ms_nil)
  (ms_cons (ms_ret r_non)
  ms_nil)))))
def s_long_one : List D → Sto → Rs D := callM 2 m_long_one
theorem k_long_one : ∀ ds s, s_long_one ds s = .bad ∨ callM 2 m_long_one ds s = s_long_one ds s := fun _ _ => .inr rfl
theorem sc_stitch : FnScope ["mark", "found"] ["mark"] (defScope st_stitch) := ⟨rfl, rfl, rfl, by decide +kernel, rfl, by decide +kernel, by decide +kernel⟩
@[simp] def m_stitch : MD Fl :=
  (sSeq (sAsg (mC .non) (tgName 1))
  (sSeq (sIf (mTest (mAnd (mIsi (tyT "str") a_str (mVar 0)) (mChain (Cm.sem .le) (Cm.sem .le) (mC (.int 1)) (mCallB (BI.sem (.len)) (mCons (mVar 0) mNil)) (mC (.int 2))))) (sSeq (sAsg (mCall s_short_one [] (mCons (mVar 0) mNil)) (tgName 1))
  sNext) (sSeq (sIf (mTest (mAnd (mIsi (tyT "str") a_str (mVar 0)) (mChain (Cm.sem .le) (Cm.sem .le) (mC (.int 3)) (mCallB (BI.sem (.len)) (mCons (mVar 0) mNil)) (mC (.int 4))))) (sSeq (sAsg (mCall s_long_one [] (mCons (mVar 0) mNil)) (tgName 1))
  sNext) sNext)
  sNext))
  (sSeq (sIf (mTest (mBin (Cm.sem .is_) (mVar 1) (mC .non))) (sSeq (sRaise 1)
  sNext) sNext)
  (sSeq (sRet (mVar 1))
  sNext))))
theorem b_stitch {W : Wd} (r_NoStitch : RaiW W "NoStitch" 1) (z_isinstance : BltW W "isinstance") (i_str : IsW W (.type "str") (tyT "str") a_str) (z_str : BltW W "str") (z_len : BltW W "len") (h_short_one_0 : CallW W "short_one" 1 s_short_one []) (h_long_one_0 : CallW W "long_one" 1 s_long_one []) : ∀ F E X, Sx W ⟨["mark", "found"], defScope st_stitch, fun _ => true⟩ E X → PSs X (defBody st_stitch) (TSx (W.g.wF F) E (m_stitch)) := fun F E X b =>
  (ms_cons (ms_asg (vs := [1]) r_non (b.tname (i := 1) (by decide +kernel) (by decide)) rfl (.inl rfl) rfl)
  (ms_cons (ms_if (PW.pt (mt_and (mt_val (b.isi i_str (.ty "str") (b.ty "str" z_str (by decide +kernel) (by decide +kernel)) z_isinstance (by decide +kernel) (b.var (i := 0) (by decide +kernel)) rfl) (fun _ => rfl)) (pw_and1 (b.tchain .le .le rfl rfl rfl r_int (b.bi (.len) rfl z_len (by decide +kernel) (ar_cons (b.var (i := 0) (by decide +kernel)) ar_nil rfl)) r_int)))) (ms_cons (ms_asg (vs := [1]) (b.call h_short_one_0 (by decide +kernel) (ar_cons (b.var (i := 0) (by decide +kernel)) ar_nil rfl) rfl) (b.tname (i := 1) (by decide +kernel) (by decide)) rfl (.inl rfl) rfl)
  ms_nil) (ms_cons (ms_if (PW.pt (mt_and (mt_val (b.isi i_str (.ty "str") (b.ty "str" z_str (by decide +kernel) (by decide +kernel)) z_isinstance (by decide +kernel) (b.var (i := 0) (by decide +kernel)) rfl) (fun _ => rfl)) (pw_and1 (b.tchain .le .le rfl rfl rfl r_int (b.bi (.len) rfl z_len (by decide +kernel) (ar_cons (b.var (i := 0) (by decide +kernel)) ar_nil rfl)) r_int)))) (ms_cons (ms_asg (vs := [1]) (b.call h_long_one_0 (by decide +kernel) (ar_cons (b.var (i := 0) (by decide +kernel)) ar_nil rfl) rfl) (b.tname (i := 1) (by decide +kernel) (by decide)) rfl (.inl rfl) rfl)
  ms_nil) ms_nil)
  ms_nil))
  (ms_cons (ms_if (b.tcmp .is_ rfl rfl (b.var (i := 1) (by decide +kernel)) r_non) (ms_cons (b.raise0 r_NoStitch (by decide +kernel))
  ms_nil) ms_nil)
  (ms_cons (ms_ret (b.var (i := 1) (by decide +kernel)))
  ms_nil))))
def s_stitch (ds : List D) (s : Sto) : Rs D := pgD (callM 2 m_stitch) ds s
theorem k_stitch : ∀ ds s, s_stitch ds s = .bad ∨ pgD (callM 2 m_stitch) ds s = s_stitch ds s := fun _ _ => .inr rfl
theorem sc_read_mark : FnScope ["mark", "found"] ["mark"] (defScope st_read_mark) := ⟨rfl, rfl, rfl, by decide +kernel, rfl, by decide +kernel, by decide +kernel⟩
@[simp] def m_read_mark : MD Fl :=
  (sSeq (sTryX em_NoStitch (sSetE (mCallE s_stitch [] (mCons (mVar 0) mNil)) 1) (sSeq (sRaise 7)
  sNext) (sSeq (sRet (mVar 1))
  sNext))
  sNext)
theorem b_read_mark {W : Wd} (nn0 : W.nn = false) (hn_stitch_0 : CallW W.N "stitch" 1 s_stitch []) (r_NoChart : RaiW W "NoChart" 7) (em_NoStitch : ExmW W "NoStitch" em_NoStitch) : ∀ F E X, Sy W ⟨["mark", "found"], defScope st_read_mark, fun _ => true⟩ E X → PSs X (defBody st_read_mark) (TSx (W.g.wF F) E (m_read_mark)) := fun F E X y => have b := y.toSx;
  (ms_cons (y.tryX nn0 em_NoStitch (by decide +kernel) (fun X' Eσ b' hx => (me_one_e (b'.toBx.q.setE (i := 1) (b'.toBx.toN.callE hx hn_stitch_0 (by decide +kernel) (ar_cons (b'.var (i := 0) (by decide +kernel)) ar_nil rfl) rfl) rfl (by decide +kernel)))) (fun X' hh => have q := hh.toQx; (ms_cons (hh.raise0N r_NoChart (by decide +kernel))
  ms_nil)) (ms_cons (ms_ret (b.var (i := 1) (by decide +kernel)))
  ms_nil))
  ms_nil)
def s_read_mark : List D → Sto → Rs D := callM 2 m_read_mark
theorem k_read_mark : ∀ ds s, s_read_mark ds s = .bad ∨ callM 2 m_read_mark ds s = s_read_mark ds s := fun _ _ => .inr rfl
theorem sc_read_row : FnScope ["text", "marks", "mark"] ["text"] (defScope st_read_row) := ⟨rfl, rfl, rfl, by decide +kernel, rfl, by decide +kernel, by decide +kernel⟩
@[simp] def m_read_row : MD Fl :=
  (sSeq (sIf (mTest (mNot (mIsi (tyT "str") a_str (mVar 0)))) (sSeq (sRaise 7)
  sNext) sNext)
  (sSeq (sIf (mTest (mBin (Cm.sem .eq) (mVar 0) (mC (.str "-")))) (sSeq (sRet (mLst false mNil))
  sNext) sNext)
  (sSeq (sAsg (mBM .str splitD (mVar 0) (mCons (mC (.str " ")) mNil)) (tgName 1))
  (sSeq (sRet (mLcE false [2] (mRev (mVar 1)) (tgName 2) mYes (mCall s_read_mark [] (mCons (mVar 2) mNil))))
  sNext))))
theorem b_read_row {W : Wd} (z_reversed : BltW W "reversed") (h_read_mark_0 : CallW W "read_mark" 1 s_read_mark []) (z_isinstance : BltW W "isinstance") (i_str : IsW W (.type "str") (tyT "str") a_str) (z_str : BltW W "str") (r_NoChart : RaiW W "NoChart" 7) : ∀ F E X, Sx W ⟨["text", "marks", "mark"], defScope st_read_row, fun _ => true⟩ E X → PSs X (defBody st_read_row) (TSx (W.g.wF F) E (m_read_row)) := fun F E X b =>
  (ms_cons (ms_if (mt_not (mt_val (b.isi i_str (.ty "str") (b.ty "str" z_str (by decide +kernel) (by decide +kernel)) z_isinstance (by decide +kernel) (b.var (i := 0) (by decide +kernel)) rfl) (fun _ => rfl))) (ms_cons (b.raise0 r_NoChart (by decide +kernel))
  ms_nil) ms_nil)
  (ms_cons (ms_if (b.tcmp .eq rfl rfl (b.var (i := 0) (by decide +kernel)) r_str) (ms_cons (ms_ret (r_lst false ar_nil (by decide)))
  ms_nil) ms_nil)
  (ms_cons (ms_asg (vs := [1]) (b.spl (b.var (i := 0) (by decide +kernel)) rfl (ar_cons r_str ar_nil rfl) (by decide) rfl) (b.tname (i := 1) (by decide +kernel) (by decide)) rfl (.inl rfl) rfl)
  (ms_cons (ms_ret (b.lcE false [("mark", 2)] ⟨rfl, by decide +kernel, by decide +kernel, by decide +kernel, by decide +kernel⟩ (b.rev z_reversed (by decide +kernel) (b.var (i := 1) (by decide +kernel)) rfl) (fun _ _ b' => ⟨(b'.tname (i := 2) (by decide +kernel) (by decide)), r_ifs0, (b'.call h_read_mark_0 (by decide +kernel) (ar_cons (b'.var (i := 2) (by decide +kernel)) ar_nil rfl) rfl)⟩) (fun _ => rfl)))
  ms_nil))))
def s_read_row : List D → Sto → Rs D := callM 3 m_read_row
theorem k_read_row : ∀ ds s, s_read_row ds s = .bad ∨ callM 3 m_read_row ds s = s_read_row ds s := fun _ _ => .inr rfl
theorem sc_read_cast : FnScope ["text", "figures", "sign"] ["text"] (defScope st_read_cast) := ⟨rfl, rfl, rfl, by decide +kernel, rfl, by decide +kernel, by decide +kernel⟩
def m_read_cast_f0 : MD Fl :=
  (sSeq (sIf (mTest (mBin (Cm.sem .nin) (mVar 2) (mC (.str "0123456789")))) (sSeq (sRaise 7)
  sNext) sNext)
  sNext)
@[simp] def m_read_cast : MD Fl :=
  (sSeq (sIf (mTest (mOr (mNot (mIsi (tyT "str") a_str (mVar 0))) (mNot (mBM (BM.ty .starts) (BM.sem .starts) (mVar 0) (mCons (mC (.str "cast ")) mNil))))) (sSeq (sRaise 7)
  sNext) sNext)
  (sSeq (sAsg (mSl false (mVar 0) (mPart (mC (.int 5))) mPart0) (tgName 1))
  (sSeq (sIf (mTest (mOr (mBin (Cm.sem .lt) (mCallB (BI.sem (.len)) (mCons (mVar 1) mNil)) (mC (.int 1))) (mBin (Cm.sem .gt) (mCallB (BI.sem (.len)) (mCons (mVar 1) mNil)) (mC (.int 9))))) (sSeq (sRaise 7)
  sNext) sNext)
  (sSeq (sFor (mSrc (mVar 1)) (tgName 2) m_read_cast_f0)
  (sSeq (sIf (mTest (mAnd (mBin (Cm.sem .eq) (mBin idxD (mVar 1) (mC (.int 0))) (mC (.str "0"))) (mBin (Cm.sem .gt) (mCallB (BI.sem (.len)) (mCons (mVar 1) mNil)) (mC (.int 1))))) (sSeq (sRaise 7)
  sNext) sNext)
  (sSeq (sRet (mCallB (BI.sem (.int)) (mCons (mVar 1) mNil)))
  sNext))))))
theorem b_read_cast {W : Wd} (z_int : BltW W "int") (z_len : BltW W "len") (r_NoChart : RaiW W "NoChart" 7) (g_FIGURES : GlbW W "FIGURES" (.str "0123456789")) (z_isinstance : BltW W "isinstance") (i_str : IsW W (.type "str") (tyT "str") a_str) (z_str : BltW W "str") : ∀ F E X, Sx W ⟨["text", "figures", "sign"], defScope st_read_cast, fun _ => true⟩ E X → PSs X (defBody st_read_cast) (TSx (W.g.wF F) E (m_read_cast)) := fun F E X b =>
  (ms_cons (ms_if (PW.pt (mt_or (mt_not (mt_val (b.isi i_str (.ty "str") (b.ty "str" z_str (by decide +kernel) (by decide +kernel)) z_isinstance (by decide +kernel) (b.var (i := 0) (by decide +kernel)) rfl) (fun _ => rfl))) (pw_or1 (mt_not (mt_val (b.bm .starts rfl rfl (b.var (i := 0) (by decide +kernel)) rfl (ar_cons r_str ar_nil rfl) (by decide) rfl) (fun _ => rfl)))))) (ms_cons (b.raise0 r_NoChart (by decide +kernel))
  ms_nil) ms_nil)
  (ms_cons (ms_asg (vs := [1]) (b.sl false (b.var (i := 0) (by decide +kernel)) (mo_some r_int) mo_none) (b.tname (i := 1) (by decide +kernel) (by decide)) rfl (.inl rfl) rfl)
  (ms_cons (ms_if (PW.pt (mt_or (b.tcmp .lt rfl rfl (b.bi (.len) rfl z_len (by decide +kernel) (ar_cons (b.var (i := 1) (by decide +kernel)) ar_nil rfl)) r_int) (pw_or1 (b.tcmp .gt rfl rfl (b.bi (.len) rfl z_len (by decide +kernel) (ar_cons (b.var (i := 1) (by decide +kernel)) ar_nil rfl)) r_int)))) (ms_cons (b.raise0 r_NoChart (by decide +kernel))
  ms_nil) ms_nil)
  (ms_cons (b.for_ (vs := [2]) (b.src (b.var (i := 1) (by decide +kernel))) (b.tname (i := 2) (by decide +kernel) (by decide)) (ms_cons (ms_if (b.tcmp .nin rfl rfl (b.var (i := 2) (by decide +kernel)) (b.glb g_FIGURES (by decide +kernel))) (ms_cons (b.raise0 r_NoChart (by decide +kernel))
  ms_nil) ms_nil)
  ms_nil) (fun _ => rfl))
  (ms_cons (ms_if (PW.pt (mt_and (b.tcmp .eq rfl rfl (b.idx (b.var (i := 1) (by decide +kernel)) r_int rfl) r_str) (pw_and1 (b.tcmp .gt rfl rfl (b.bi (.len) rfl z_len (by decide +kernel) (ar_cons (b.var (i := 1) (by decide +kernel)) ar_nil rfl)) r_int)))) (ms_cons (b.raise0 r_NoChart (by decide +kernel))
  ms_nil) ms_nil)
  (ms_cons (ms_ret (b.bi (.int) rfl z_int (by decide +kernel) (ar_cons (b.var (i := 1) (by decide +kernel)) ar_nil rfl)))
  ms_nil))))))
def s_read_cast : List D → Sto → Rs D := callM 3 m_read_cast
theorem k_read_cast : ∀ ds s, s_read_cast ds s = .bad ∨ callM 3 m_read_cast ds s = s_read_cast ds s := fun _ _ => .inr rfl
theorem sc_read_chart : FnScope ["texts", "cast", "rows", "text"] ["texts"] (defScope st_read_chart) := ⟨rfl, rfl, rfl, by decide +kernel, rfl, by decide +kernel, by decide +kernel⟩
@[simp] def m_read_chart : MD Fl :=
  (sSeq (sIf (mTest (mOr (mNot (mIsi (tyT "list") a_list (mVar 0))) (mBin (Cm.sem .eq) (mVar 0) (mLst false mNil)))) (sSeq (sRaise 7)
  sNext) sNext)
  (sSeq (sAsg (mCall s_read_cast [] (mCons (mBin idxD (mVar 0) (mNeg (mC (.int 1)))) mNil)) (tgName 1))
  (sSeq (sAsg (mSl false (mVar 0) mPart0 (mPart (mNeg (mC (.int 1))))) (tgName 2))
  (sSeq (sRet (mTup (mCons (mVar 1) (mCons (mLcE false [3] (mRev (mVar 2)) (tgName 3) mYes (mCall s_read_row [] (mCons (mVar 3) mNil))) mNil))))
  sNext))))
theorem b_read_chart {W : Wd} (z_reversed : BltW W "reversed") (h_read_row_0 : CallW W "read_row" 1 s_read_row []) (h_read_cast_0 : CallW W "read_cast" 1 s_read_cast []) (z_isinstance : BltW W "isinstance") (i_list : IsW W (.type "list") (tyT "list") a_list) (z_list : BltW W "list") (r_NoChart : RaiW W "NoChart" 7) : ∀ F E X, Sx W ⟨["texts", "cast", "rows", "text"], defScope st_read_chart, fun _ => true⟩ E X → PSs X (defBody st_read_chart) (TSx (W.g.wF F) E (m_read_chart)) := fun F E X b =>
  (ms_cons (ms_if (PW.pt (mt_or (mt_not (mt_val (b.isi i_list (.ty "list") (b.ty "list" z_list (by decide +kernel) (by decide +kernel)) z_isinstance (by decide +kernel) (b.var (i := 0) (by decide +kernel)) rfl) (fun _ => rfl))) (pw_or1 (b.tcmp .eq rfl rfl (b.var (i := 0) (by decide +kernel)) (r_lst false ar_nil (by decide)))))) (ms_cons (b.raise0 r_NoChart (by decide +kernel))
  ms_nil) ms_nil)
  (ms_cons (ms_asg (vs := [1]) (b.call h_read_cast_0 (by decide +kernel) (ar_cons (b.idx (b.var (i := 0) (by decide +kernel)) (me_neg r_int) rfl) ar_nil rfl) rfl) (b.tname (i := 1) (by decide +kernel) (by decide)) rfl (.inl rfl) rfl)
  (ms_cons (ms_asg (vs := [2]) (b.sl false (b.var (i := 0) (by decide +kernel)) mo_none (mo_some (me_neg r_int))) (b.tname (i := 2) (by decide +kernel) (by decide)) rfl (.inl rfl) rfl)
  (ms_cons (ms_ret (r_tup (ar_cons (b.var (i := 1) (by decide +kernel)) (ar_cons (b.lcE false [("text", 3)] ⟨rfl, by decide +kernel, by decide +kernel, by decide +kernel, by decide +kernel⟩ (b.rev z_reversed (by decide +kernel) (b.var (i := 2) (by decide +kernel)) rfl) (fun _ _ b' => ⟨(b'.tname (i := 3) (by decide +kernel) (by decide)), r_ifs0, (b'.call h_read_row_0 (by decide +kernel) (ar_cons (b'.var (i := 3) (by decide +kernel)) ar_nil rfl) rfl)⟩) (fun _ => rfl)) ar_nil rfl) rfl) (by decide)))
  ms_nil))))
def s_read_chart : List D → Sto → Rs D := callM 4 m_read_chart
theorem k_read_chart : ∀ ds s, s_read_chart ds s = .bad ∨ callM 4 m_read_chart ds s = s_read_chart ds s := fun _ _ => .inr rfl
def d_mark (q : Nat) : Option (List D → Sto → Rs D) := ([none, none, none, none, none, none, none, none, none, none, none, none, some s_Stitch_mark, some s_Plain_mark, some s_Slip_mark, some s_Over_mark, some s_Lean_mark, some s_Grow_mark, some s_Cross_mark, some s_Off_mark, some s_Keep_mark, some s_Fetch_mark] : List (Option (List D → Sto → Rs D))).getD q none
theorem sc__law_read : FnScope ["_law_texts_here", "_law_cast", "_law_rows_here", "_law_found", "_law_row", "_law_marks", "_law_one"] ["_law_texts_here", "_law_cast", "_law_rows_here"] (defScope st__law_read) := ⟨rfl, rfl, rfl, by decide +kernel, rfl, by decide +kernel, by decide +kernel⟩
def m__law_read_f0 : MD Fl :=
  (sSeq (sIf (mTest (mNot (mIsi b_ty_Stitch a_Stitch (mVar 6)))) (sSeq (sRet (mC (.bl false)))
  sNext) sNext)
  sNext)
def m__law_read_f1 : MD Fl :=
  (sSeq (sIf (mTest (mNot (mIsi (tyT "list") a_list (mVar 4)))) (sSeq (sRet (mC (.bl false)))
  sNext) sNext)
  (sSeq (sFor (mSrc (mVar 4)) (tgName 6) m__law_read_f0)
  (sSeq (sIf (mTest (mBin (Cm.sem .ne) (mLc false [6] (mSrc (mVar 4)) (tgName 6) mYes (mMeth d_mark [] (mVar 6) mNil)) (mVar 5))) (sSeq (sRet (mC (.bl false)))
  sNext) sNext)
  sNext)))
@[simp] def m__law_read : MD Fl :=
  (sSeq (sAsg (mCall s_read_chart [] (mCons (mVar 0) mNil)) (tgName 3))
  (sSeq (sIf (mTest (mOr (mNot (mIsi (tyT "tuple") a_tuple (mVar 3))) (mOr (mBin (Cm.sem .ne) (mCallB (BI.sem (.len)) (mCons (mVar 3) mNil)) (mC (.int 2))) (mNot (mIsi (tyT "list") a_list (mBin idxD (mVar 3) (mC (.int 1)))))))) (sSeq (sRet (mC (.bl false)))
  sNext) sNext)
  (sSeq (sIf (mTest (mOr (mNot (mIsi (tyT "int") a_int (mBin idxD (mVar 3) (mC (.int 0))))) (mOr (mIsi (tyT "bool") a_bool (mBin idxD (mVar 3) (mC (.int 0)))) (mBin (Cm.sem .ne) (mBin idxD (mVar 3) (mC (.int 0))) (mVar 1))))) (sSeq (sRet (mC (.bl false)))
  sNext) sNext)
  (sSeq (sIf (mTest (mBin (Cm.sem .ne) (mCallB (BI.sem (.len)) (mCons (mBin idxD (mVar 3) (mC (.int 1))) mNil)) (mCallB (BI.sem (.len)) (mCons (mVar 2) mNil)))) (sSeq (sRet (mC (.bl false)))
  sNext) sNext)
  (sSeq (sFor (mZip (mCons (mBin idxD (mVar 3) (mC (.int 1))) (mCons (mVar 2) mNil))) (tgTup (tgCons (tgName 4) (tgCons (tgName 5) tgNil))) m__law_read_f1)
  (sSeq (sRet (mC (.bl true)))
  sNext))))))
theorem b__law_read {W : Wd} (z_zip : BltW W "zip") (t_mark_0 : MethW W "mark" 1 [] d_mark) (z_isinstance : BltW W "isinstance") (i_Stitch : IsC W "Stitch" b_ty_Stitch a_Stitch) (i_list : IsW W (.type "list") (tyT "list") a_list) (z_list : BltW W "list") (z_len : BltW W "len") (i_int : IsW W (.type "int") (tyT "int") a_int) (z_int : BltW W "int") (i_bool : IsW W (.type "bool") (tyT "bool") a_bool) (z_bool : BltW W "bool") (i_tuple : IsW W (.type "tuple") (tyT "tuple") a_tuple) (z_tuple : BltW W "tuple") (h_read_chart_0 : CallW W "read_chart" 1 s_read_chart []) : ∀ F E X, Sx W ⟨["_law_texts_here", "_law_cast", "_law_rows_here", "_law_found", "_law_row", "_law_marks", "_law_one"], defScope st__law_read, fun _ => true⟩ E X → PSs X (defBody st__law_read) (TSx (W.g.wF F) E (m__law_read)) := fun F E X b =>
  (ms_cons (ms_asg (vs := [3]) (b.call h_read_chart_0 (by decide +kernel) (ar_cons (b.var (i := 0) (by decide +kernel)) ar_nil rfl) rfl) (b.tname (i := 3) (by decide +kernel) (by decide)) rfl (.inl rfl) rfl)
  (ms_cons (ms_if (PW.pt (mt_or (mt_not (mt_val (b.isi i_tuple (.ty "tuple") (b.ty "tuple" z_tuple (by decide +kernel) (by decide +kernel)) z_isinstance (by decide +kernel) (b.var (i := 3) (by decide +kernel)) rfl) (fun _ => rfl))) (mt_or (b.tcmp .ne rfl rfl (b.bi (.len) rfl z_len (by decide +kernel) (ar_cons (b.var (i := 3) (by decide +kernel)) ar_nil rfl)) r_int) (pw_or1 (mt_not (mt_val (b.isi i_list (.ty "list") (b.ty "list" z_list (by decide +kernel) (by decide +kernel)) z_isinstance (by decide +kernel) (b.idx (b.var (i := 3) (by decide +kernel)) r_int rfl) rfl) (fun _ => rfl))))))) (ms_cons (ms_ret r_bl)
  ms_nil) ms_nil)
  (ms_cons (ms_if (PW.pt (mt_or (mt_not (mt_val (b.isi i_int (.ty "int") (b.ty "int" z_int (by decide +kernel) (by decide +kernel)) z_isinstance (by decide +kernel) (b.idx (b.var (i := 3) (by decide +kernel)) r_int rfl) rfl) (fun _ => rfl))) (mt_or (mt_val (b.isi i_bool (.ty "bool") (b.ty "bool" z_bool (by decide +kernel) (by decide +kernel)) z_isinstance (by decide +kernel) (b.idx (b.var (i := 3) (by decide +kernel)) r_int rfl) rfl) (fun _ => rfl)) (pw_or1 (b.tcmp .ne rfl rfl (b.idx (b.var (i := 3) (by decide +kernel)) r_int rfl) (b.var (i := 1) (by decide +kernel))))))) (ms_cons (ms_ret r_bl)
  ms_nil) ms_nil)
  (ms_cons (ms_if (b.tcmp .ne rfl rfl (b.bi (.len) rfl z_len (by decide +kernel) (ar_cons (b.idx (b.var (i := 3) (by decide +kernel)) r_int rfl) ar_nil rfl)) (b.bi (.len) rfl z_len (by decide +kernel) (ar_cons (b.var (i := 2) (by decide +kernel)) ar_nil rfl))) (ms_cons (ms_ret r_bl)
  ms_nil) ms_nil)
  (ms_cons (b.for_ (vs := [4, 5]) (b.zip z_zip (by decide +kernel) (ar_cons (b.idx (b.var (i := 3) (by decide +kernel)) r_int rfl) (ar_cons (b.var (i := 2) (by decide +kernel)) ar_nil rfl) rfl)) (b.ttup (tr_cons (b.tname (i := 4) (by decide +kernel) (by decide)) nox_name (tr_cons (b.tname (i := 5) (by decide +kernel) (by decide)) nox_name tr_nil rfl) rfl)) (ms_cons (ms_if (mt_not (mt_val (b.isi i_list (.ty "list") (b.ty "list" z_list (by decide +kernel) (by decide +kernel)) z_isinstance (by decide +kernel) (b.var (i := 4) (by decide +kernel)) rfl) (fun _ => rfl))) (ms_cons (ms_ret r_bl)
  ms_nil) ms_nil)
  (ms_cons (b.for_ (vs := [6]) (b.src (b.var (i := 4) (by decide +kernel))) (b.tname (i := 6) (by decide +kernel) (by decide)) (ms_cons (ms_if (mt_not (mt_val (b.isiC i_Stitch z_isinstance (by decide +kernel) (by decide +kernel) (b.var (i := 6) (by decide +kernel)) rfl) (fun _ => rfl))) (ms_cons (ms_ret r_bl)
  ms_nil) ms_nil)
  ms_nil) (fun _ => rfl))
  (ms_cons (ms_if (b.tcmp .ne rfl rfl (b.lc false [("_law_one", 6)] ⟨rfl, by decide +kernel, by decide +kernel, by decide +kernel, by decide +kernel⟩ (b.src (b.var (i := 4) (by decide +kernel))) (fun _ _ b' => ⟨(b'.tname (i := 6) (by decide +kernel) (by decide)), r_ifs0, (b'.meth0 t_mark_0 (b'.var (i := 6) (by decide +kernel)) rfl rfl rfl)⟩) (fun _ => rfl)) (b.var (i := 5) (by decide +kernel))) (ms_cons (ms_ret r_bl)
  ms_nil) ms_nil)
  ms_nil))) (fun _ => rfl))
  (ms_cons (ms_ret r_bl)
  ms_nil))))))
def s__law_read : List D → Sto → Rs D := callM 7 m__law_read
theorem k__law_read : ∀ ds s, s__law_read ds s = .bad ∨ callM 7 m__law_read ds s = s__law_read ds s := fun _ _ => .inr rfl
theorem sc__law_class_told : FnScope ["_law_e", "_law_some"] ["_law_e"] (defScope st__law_class_told) := ⟨rfl, rfl, rfl, by decide +kernel, rfl, by decide +kernel, by decide +kernel⟩
@[simp] def m__law_class_told : MD Fl :=
  (sSeq (sAsg (mLst false (mCons (mIsx tyF (fun _ => none) e_NoStitch (mVar 0)) (mCons (mIsx tyF (fun _ => none) e_NoSum (mVar 0)) (mCons (mIsx tyF (fun _ => none) e_NoPattern (mVar 0)) (mCons (mIsx tyF (fun _ => none) e_TooMany (mVar 0)) mNil))))) (tgName 1))
  (sSeq (sAsg (mBin (addD false) (mVar 1) (mLst false (mCons (mIsx tyF (fun _ => none) e_Miscount (mVar 0)) (mCons (mIsx tyF (fun _ => none) e_NotLying (mVar 0)) (mCons (mIsx tyF (fun _ => none) e_Tangle (mVar 0)) (mCons (mIsx tyF (fun _ => none) e_NoRow (mVar 0)) mNil)))))) (tgName 1))
  (sSeq (sAsg (mBin (addD false) (mVar 1) (mLst false (mCons (mIsx tyF (fun _ => none) e_NoName (mVar 0)) (mCons (mIsx tyF (fun _ => none) e_NoPlace (mVar 0)) mNil)))) (tgName 1))
  (sSeq (sRet (mAnd (mBin (Cm.sem .nin) (mC (.bl true)) (mVar 1)) (mAnd (mIsx tyF (fun _ => none) e_NoChart (mVar 0)) (mIsx tyF (fun _ => none) e_ValueError (mVar 0)))))
  sNext))))
theorem b__law_class_told {W : Wd} (z_isinstance : BltW W "isinstance") (ix_NoChart : IsX W "NoChart" tyF (fun _ => none) e_NoChart) (ix_ValueError : IsX W "ValueError" tyF (fun _ => none) e_ValueError) (ix_NoPlace : IsX W "NoPlace" tyF (fun _ => none) e_NoPlace) (ix_NoName : IsX W "NoName" tyF (fun _ => none) e_NoName) (ix_NoRow : IsX W "NoRow" tyF (fun _ => none) e_NoRow) (ix_Tangle : IsX W "Tangle" tyF (fun _ => none) e_Tangle) (ix_NotLying : IsX W "NotLying" tyF (fun _ => none) e_NotLying) (ix_Miscount : IsX W "Miscount" tyF (fun _ => none) e_Miscount) (ix_TooMany : IsX W "TooMany" tyF (fun _ => none) e_TooMany) (ix_NoPattern : IsX W "NoPattern" tyF (fun _ => none) e_NoPattern) (ix_NoSum : IsX W "NoSum" tyF (fun _ => none) e_NoSum) (ix_NoStitch : IsX W "NoStitch" tyF (fun _ => none) e_NoStitch) : ∀ F X, Qx W ⟨["_law_e", "_law_some"], defScope st__law_class_told, fun _ => true⟩ X → PSs X (defBody st__law_class_told) (TSx (W.g.wF F) (fun _ _ _ => False) (m__law_class_told)) := fun F X q =>
  (ms_cons (ms_asg (vs := [1]) (r_lst false (ar_cons (q.isx ix_NoStitch z_isinstance (by decide +kernel) (by decide +kernel) (q.var (i := 0) (by decide +kernel)) rfl) (ar_cons (q.isx ix_NoSum z_isinstance (by decide +kernel) (by decide +kernel) (q.var (i := 0) (by decide +kernel)) rfl) (ar_cons (q.isx ix_NoPattern z_isinstance (by decide +kernel) (by decide +kernel) (q.var (i := 0) (by decide +kernel)) rfl) (ar_cons (q.isx ix_TooMany z_isinstance (by decide +kernel) (by decide +kernel) (q.var (i := 0) (by decide +kernel)) rfl) ar_nil rfl) rfl) rfl) rfl) (by decide)) (q.tname (i := 1) (by decide +kernel) (by decide)) rfl (.inr rfl) rfl)
  (ms_cons (ms_asg (vs := [1]) (q.add false (q.var (i := 1) (by decide +kernel)) (r_lst false (ar_cons (q.isx ix_Miscount z_isinstance (by decide +kernel) (by decide +kernel) (q.var (i := 0) (by decide +kernel)) rfl) (ar_cons (q.isx ix_NotLying z_isinstance (by decide +kernel) (by decide +kernel) (q.var (i := 0) (by decide +kernel)) rfl) (ar_cons (q.isx ix_Tangle z_isinstance (by decide +kernel) (by decide +kernel) (q.var (i := 0) (by decide +kernel)) rfl) (ar_cons (q.isx ix_NoRow z_isinstance (by decide +kernel) (by decide +kernel) (q.var (i := 0) (by decide +kernel)) rfl) ar_nil rfl) rfl) rfl) rfl) (by decide))) (q.tname (i := 1) (by decide +kernel) (by decide)) rfl (.inl rfl) rfl)
  (ms_cons (ms_asg (vs := [1]) (q.add false (q.var (i := 1) (by decide +kernel)) (r_lst false (ar_cons (q.isx ix_NoName z_isinstance (by decide +kernel) (by decide +kernel) (q.var (i := 0) (by decide +kernel)) rfl) (ar_cons (q.isx ix_NoPlace z_isinstance (by decide +kernel) (by decide +kernel) (q.var (i := 0) (by decide +kernel)) rfl) ar_nil rfl) rfl) (by decide))) (q.tname (i := 1) (by decide +kernel) (by decide)) rfl (.inl rfl) rfl)
  (ms_cons (ms_ret (me_and (q.cmp .nin rfl rfl r_bl (q.var (i := 1) (by decide +kernel))) (me_and (q.isx ix_NoChart z_isinstance (by decide +kernel) (by decide +kernel) (q.var (i := 0) (by decide +kernel)) rfl) (pe_one (q.isx ix_ValueError z_isinstance (by decide +kernel) (by decide +kernel) (q.var (i := 0) (by decide +kernel)) rfl)))))
  ms_nil))))
def s__law_class_told : List D → Sto → Rs D := callM 2 m__law_class_told
theorem k__law_class_told : ∀ ds s, s__law_class_told ds s = .bad ∨ callM 2 m__law_class_told ds s = s__law_class_told ds s := fun _ _ => .inr rfl
theorem sc__law_refused : FnScope ["_law_texts_here", "_law_told", "_law_e"] ["_law_texts_here"] (defScope st__law_refused) := ⟨rfl, rfl, rfl, by decide +kernel, rfl, by decide +kernel, by decide +kernel⟩
@[simp] def m__law_refused : MD Fl :=
  (sSeq (sAsg (mC (.bl false)) (tgName 1))
  (sSeq (sTry 2 em_StitchError (sExpr (mCallE s_read_chart [] (mCons (mVar 0) mNil))) (sSeq (sAsg (mCallQ s__law_class_told (mCons (mVar 2) mNil)) (tgName 1))
  sNext))
  (sSeq (sRet (mVar 1))
  sNext)))
theorem b__law_refused {W : Wd} (nn0 : W.nn = false) (h_read_chart_0 : CallW W "read_chart" 1 s_read_chart []) (hq__law_class_told : CallQ W "_law_class_told" 1 s__law_class_told) (em_StitchError : ExmW W "StitchError" em_StitchError) : ∀ F E X, Sx W ⟨["_law_texts_here", "_law_told", "_law_e"], defScope st__law_refused, fun _ => true⟩ E X → PSs X (defBody st__law_refused) (TSx (W.g.wF F) E (m__law_refused)) := fun F E X b =>
  (ms_cons (ms_asg (vs := [1]) r_bl (b.tname (i := 1) (by decide +kernel) (by decide)) rfl (.inl rfl) rfl)
  (ms_cons (b.try_ (i := 2) nn0 em_StitchError (by decide +kernel) rfl (by decide +kernel) (fun X' Eσ b' hx => (me_one_e (me_expr_e (b'.toBx.callE hx h_read_chart_0 (by decide +kernel) (ar_cons (b'.var (i := 0) (by decide +kernel)) ar_nil rfl) rfl) rfl))) (fun X' q => (ms_cons (ms_asg (vs := [1]) (q.call hq__law_class_told (by decide +kernel) (ar_cons (q.var (i := 2) (by decide +kernel)) ar_nil rfl) rfl) (q.tname (i := 1) (by decide +kernel) (by decide)) rfl (.inl rfl) rfl)
  ms_nil)))
  (ms_cons (ms_ret (b.var (i := 1) (by decide +kernel)))
  ms_nil)))
def s__law_refused : List D → Sto → Rs D := callM 3 m__law_refused
theorem k__law_refused : ∀ ds s, s__law_refused ds s = .bad ∨ callM 3 m__law_refused ds s = s__law_refused ds s := fun _ _ => .inr rfl
theorem sc__law_no_cast : FnScope ["_law_cell", "_law_some"] ["_law_cell"] (defScope st__law_no_cast) := ⟨rfl, rfl, rfl, by decide +kernel, rfl, by decide +kernel, by decide +kernel⟩
@[simp] def m__law_no_cast : MD Fl :=
  (sSeq (sAsg (mLst false (mCons (mC (.str "cast")) (mCons (mC (.str "cast ")) (mCons (mC (.str "cast 01")) (mCons (mC (.str "cast 00")) (mCons (mC (.str "cast -1")) (mCons (mC (.str "cast +1")) (mCons (mC (.str "cast 1234567890")) (mCons (mC (.str "cast 1 ")) (mCons (mC (.str "cast  1")) mNil)))))))))) (tgName 1))
  (sSeq (sAsg (mBin (addD false) (mVar 1) (mLst false (mCons (mC (.str "Cast 1")) (mCons (mC (.str "cast a")) (mCons (mC (.str "3")) (mCons (mC .non) (mCons (mC (.int 3)) (mCons (mC (.str "cast 1_0")) mNil)))))))) (tgName 1))
  (sSeq (sRet (mBin idxD (mVar 1) (mBin modD (mVar 0) (mC (.int 15)))))
  sNext)))
theorem b__law_no_cast {W : Wd}  : ∀ F E X, Sx W ⟨["_law_cell", "_law_some"], defScope st__law_no_cast, fun _ => true⟩ E X → PSs X (defBody st__law_no_cast) (TSx (W.g.wF F) E (m__law_no_cast)) := fun F E X b =>
  (ms_cons (ms_asg (vs := [1]) (r_lst false (ar_cons r_str (ar_cons r_str (ar_cons r_str (ar_cons r_str (ar_cons r_str (ar_cons r_str (ar_cons r_str (ar_cons r_str (ar_cons r_str ar_nil rfl) rfl) rfl) rfl) rfl) rfl) rfl) rfl) rfl) (by decide)) (b.tname (i := 1) (by decide +kernel) (by decide)) rfl (.inr rfl) rfl)
  (ms_cons (ms_asg (vs := [1]) (b.add false (b.var (i := 1) (by decide +kernel)) (r_lst false (ar_cons r_str (ar_cons r_str (ar_cons r_str (ar_cons r_non (ar_cons r_int (ar_cons r_str ar_nil rfl) rfl) rfl) rfl) rfl) rfl) (by decide))) (b.tname (i := 1) (by decide +kernel) (by decide)) rfl (.inl rfl) rfl)
  (ms_cons (ms_ret (b.idx (b.var (i := 1) (by decide +kernel)) (b.mod (b.var (i := 0) (by decide +kernel)) r_int) rfl))
  ms_nil)))
def s__law_no_cast : List D → Sto → Rs D := callM 2 m__law_no_cast
theorem k__law_no_cast : ∀ ds s, s__law_no_cast ds s = .bad ∨ callM 2 m__law_no_cast ds s = s__law_no_cast ds s := fun _ _ => .inr rfl
theorem sc__law_no_row : FnScope ["_law_cell", "_law_some"] ["_law_cell"] (defScope st__law_no_row) := ⟨rfl, rfl, rfl, by decide +kernel, rfl, by decide +kernel, by decide +kernel⟩
@[simp] def m__law_no_row : MD Fl :=
  (sSeq (sAsg (mLst false (mCons (mC (.str "")) (mCons (mC (.str " ")) (mCons (mC (.str "--")) (mCons (mC (.str "- -")) (mCons (mC (.str "k -")) (mCons (mC (.str "- k")) (mCons (mC (.str "k  p")) (mCons (mC (.str " k")) (mCons (mC (.str "k ")) (mCons (mC (.str "K")) (mCons (mC (.str "kp")) (mCons (mC (.str "k,p")) (mCons (mC (.str "cast 3")) (mCons (mC (.str "k2")) (mCons (mC (.str "k1r")) (mCons (mC (.str "k5l")) mNil))))))))))))))))) (tgName 1))
  (sSeq (sAsg (mBin (addD false) (mVar 1) (mLst false (mCons (mC (.str "c0f1")) (mCons (mC (.str "c1f5")) (mCons (mC (.str "c2r1")) (mCons (mC (.str "px1")) (mCons (mC (.str "px5")) (mCons (mC (.str "hv")) (mCons (mC (.str "f")) (mCons (mC .non) (mCons (mC (.int 3)) (mCons (mLst false (mCons (mC (.str "k")) mNil)) mNil)))))))))))) (tgName 1))
  (sSeq (sRet (mBin idxD (mVar 1) (mBin modD (mVar 0) (mC (.int 26)))))
  sNext)))
theorem b__law_no_row {W : Wd}  : ∀ F E X, Sx W ⟨["_law_cell", "_law_some"], defScope st__law_no_row, fun _ => true⟩ E X → PSs X (defBody st__law_no_row) (TSx (W.g.wF F) E (m__law_no_row)) := fun F E X b =>
  (ms_cons (ms_asg (vs := [1]) (r_lst false (ar_cons r_str (ar_cons r_str (ar_cons r_str (ar_cons r_str (ar_cons r_str (ar_cons r_str (ar_cons r_str (ar_cons r_str (ar_cons r_str (ar_cons r_str (ar_cons r_str (ar_cons r_str (ar_cons r_str (ar_cons r_str (ar_cons r_str (ar_cons r_str ar_nil rfl) rfl) rfl) rfl) rfl) rfl) rfl) rfl) rfl) rfl) rfl) rfl) rfl) rfl) rfl) rfl) (by decide)) (b.tname (i := 1) (by decide +kernel) (by decide)) rfl (.inr rfl) rfl)
  (ms_cons (ms_asg (vs := [1]) (b.add false (b.var (i := 1) (by decide +kernel)) (r_lst false (ar_cons r_str (ar_cons r_str (ar_cons r_str (ar_cons r_str (ar_cons r_str (ar_cons r_str (ar_cons r_str (ar_cons r_non (ar_cons r_int (ar_cons (r_lst false (ar_cons r_str ar_nil rfl) (by decide)) ar_nil rfl) rfl) rfl) rfl) rfl) rfl) rfl) rfl) rfl) rfl) (by decide))) (b.tname (i := 1) (by decide +kernel) (by decide)) rfl (.inl rfl) rfl)
  (ms_cons (ms_ret (b.idx (b.var (i := 1) (by decide +kernel)) (b.mod (b.var (i := 0) (by decide +kernel)) r_int) rfl))
  ms_nil)))
def s__law_no_row : List D → Sto → Rs D := callM 2 m__law_no_row
theorem k__law_no_row : ∀ ds s, s__law_no_row ds s = .bad ∨ callM 2 m__law_no_row ds s = s__law_no_row ds s := fun _ _ => .inr rfl
theorem sc__law_no_chart : FnScope ["_law_texts_here", "_law_cell", "_law_some"] ["_law_texts_here", "_law_cell"] (defScope st__law_no_chart) := ⟨rfl, rfl, rfl, by decide +kernel, rfl, by decide +kernel, by decide +kernel⟩
@[simp] def m__law_no_chart : MD Fl :=
  (sSeq (sAsg (mLst false (mCons (mC .non) (mCons (mC (.str "cast 3")) (mCons (mCallB (BI.sem (.tuple)) (mCons (mVar 0) mNil)) (mCons (mDNew false) (mCons (mLst false mNil) (mCons (mC (.int 7)) mNil))))))) (tgName 2))
  (sSeq (sRet (mBin idxD (mVar 2) (mBin modD (mVar 1) (mC (.int 6)))))
  sNext))
theorem b__law_no_chart {W : Wd} (z_tuple : BltW W "tuple") : ∀ F E X, Sx W ⟨["_law_texts_here", "_law_cell", "_law_some"], defScope st__law_no_chart, fun _ => true⟩ E X → PSs X (defBody st__law_no_chart) (TSx (W.g.wF F) E (m__law_no_chart)) := fun F E X b =>
  (ms_cons (ms_asg (vs := [2]) (r_lst false (ar_cons r_non (ar_cons r_str (ar_cons (b.bi (.tuple) rfl z_tuple (by decide +kernel) (ar_cons (b.var (i := 0) (by decide +kernel)) ar_nil rfl)) (ar_cons (me_dnew (k := false)) (ar_cons (r_lst false ar_nil (by decide)) (ar_cons r_int ar_nil rfl) rfl) rfl) rfl) rfl) rfl) (by decide)) (b.tname (i := 2) (by decide +kernel) (by decide)) rfl (.inr rfl) rfl)
  (ms_cons (ms_ret (b.idx (b.var (i := 2) (by decide +kernel)) (b.mod (b.var (i := 1) (by decide +kernel)) r_int) rfl))
  ms_nil))
def s__law_no_chart : List D → Sto → Rs D := callM 3 m__law_no_chart
theorem k__law_no_chart : ∀ ds s, s__law_no_chart ds s = .bad ∨ callM 3 m__law_no_chart ds s = s__law_no_chart ds s := fun _ _ => .inr rfl
theorem sc__law_spoiled : FnScope ["_law_texts_here", "_law_way", "_law_cell", "_law_at"] ["_law_texts_here", "_law_way", "_law_cell"] (defScope st__law_spoiled) := ⟨rfl, rfl, rfl, by decide +kernel, rfl, by decide +kernel, by decide +kernel⟩
@[simp] def m__law_spoiled : MD Fl :=
  (sSeq (sIf (mTest (mBin (Cm.sem .eq) (mBin modD (mVar 1) (mC (.int 6))) (mC (.int 0)))) (sSeq (sRet (mSl false (mVar 0) mPart0 (mPart (mNeg (mC (.int 1))))))
  sNext) sNext)
  (sSeq (sIf (mTest (mBin (Cm.sem .eq) (mBin modD (mVar 1) (mC (.int 6))) (mC (.int 1)))) (sSeq (sRet (mCall s__law_no_chart [] (mCons (mVar 0) (mCons (mVar 2) mNil))))
  sNext) sNext)
  (sSeq (sIf (mTest (mAnd (mBin (Cm.sem .lt) (mBin modD (mVar 1) (mC (.int 6))) (mC (.int 4))) (mBin (Cm.sem .gt) (mCallB (BI.sem (.len)) (mCons (mVar 0) mNil)) (mC (.int 1))))) (sSeq (sAsg (mBin modD (mBin divD (mVar 1) (mC (.int 6))) (mBin subD (mCallB (BI.sem (.len)) (mCons (mVar 0) mNil)) (mC (.int 1)))) (tgName 3))
  (sSeq (sRet (mBin (addD false) (mBin (addD false) (mSl false (mVar 0) mPart0 (mPart (mVar 3))) (mLst false (mCons (mCall s__law_no_row [] (mCons (mVar 2) mNil)) mNil))) (mSl false (mVar 0) (mPart (mBin (addD false) (mVar 3) (mC (.int 1)))) mPart0)))
  sNext)) sNext)
  (sSeq (sRet (mBin (addD false) (mSl false (mVar 0) mPart0 (mPart (mNeg (mC (.int 1))))) (mLst false (mCons (mCall s__law_no_cast [] (mCons (mVar 2) mNil)) mNil))))
  sNext))))
theorem b__law_spoiled {W : Wd} (h__law_no_cast_0 : CallW W "_law_no_cast" 1 s__law_no_cast []) (z_len : BltW W "len") (h__law_no_row_0 : CallW W "_law_no_row" 1 s__law_no_row []) (h__law_no_chart_0 : CallW W "_law_no_chart" 2 s__law_no_chart []) : ∀ F E X, Sx W ⟨["_law_texts_here", "_law_way", "_law_cell", "_law_at"], defScope st__law_spoiled, fun _ => true⟩ E X → PSs X (defBody st__law_spoiled) (TSx (W.g.wF F) E (m__law_spoiled)) := fun F E X b =>
  (ms_cons (ms_if (b.tcmp .eq rfl rfl (b.mod (b.var (i := 1) (by decide +kernel)) r_int) r_int) (ms_cons (ms_ret (b.sl false (b.var (i := 0) (by decide +kernel)) mo_none (mo_some (me_neg r_int))))
  ms_nil) ms_nil)
  (ms_cons (ms_if (b.tcmp .eq rfl rfl (b.mod (b.var (i := 1) (by decide +kernel)) r_int) r_int) (ms_cons (ms_ret (b.call h__law_no_chart_0 (by decide +kernel) (ar_cons (b.var (i := 0) (by decide +kernel)) (ar_cons (b.var (i := 2) (by decide +kernel)) ar_nil rfl) rfl) rfl))
  ms_nil) ms_nil)
  (ms_cons (ms_if (PW.pt (mt_and (b.tcmp .lt rfl rfl (b.mod (b.var (i := 1) (by decide +kernel)) r_int) r_int) (pw_and1 (b.tcmp .gt rfl rfl (b.bi (.len) rfl z_len (by decide +kernel) (ar_cons (b.var (i := 0) (by decide +kernel)) ar_nil rfl)) r_int)))) (ms_cons (ms_asg (vs := [3]) (b.mod (b.div (b.var (i := 1) (by decide +kernel)) r_int) (b.sub (b.bi (.len) rfl z_len (by decide +kernel) (ar_cons (b.var (i := 0) (by decide +kernel)) ar_nil rfl)) r_int)) (b.tname (i := 3) (by decide +kernel) (by decide)) rfl (.inl rfl) rfl)
  (ms_cons (ms_ret (b.add false (b.add false (b.sl false (b.var (i := 0) (by decide +kernel)) mo_none (mo_some (b.var (i := 3) (by decide +kernel)))) (r_lst false (ar_cons (b.call h__law_no_row_0 (by decide +kernel) (ar_cons (b.var (i := 2) (by decide +kernel)) ar_nil rfl) rfl) ar_nil rfl) (by decide))) (b.sl false (b.var (i := 0) (by decide +kernel)) (mo_some (b.add false (b.var (i := 3) (by decide +kernel)) r_int)) mo_none)))
  ms_nil)) ms_nil)
  (ms_cons (ms_ret (b.add false (b.sl false (b.var (i := 0) (by decide +kernel)) mo_none (mo_some (me_neg r_int))) (r_lst false (ar_cons (b.call h__law_no_cast_0 (by decide +kernel) (ar_cons (b.var (i := 2) (by decide +kernel)) ar_nil rfl) rfl) ar_nil rfl) (by decide))))
  ms_nil))))
def s__law_spoiled : List D → Sto → Rs D := callM 4 m__law_spoiled
theorem k__law_spoiled : ∀ ds s, s__law_spoiled ds s = .bad ∨ callM 4 m__law_spoiled ds s = s__law_spoiled ds s := fun _ _ => .inr rfl
theorem sc__law_cell_at : FnScope ["_law_script", "_law_k"] ["_law_script", "_law_k"] (defScope st__law_cell_at) := ⟨rfl, rfl, rfl, by decide +kernel, rfl, by decide +kernel, by decide +kernel⟩
@[simp] def m__law_cell_at : MD Fl :=
  (sSeq (sIf (mTest (mBin (Cm.sem .lt) (mVar 1) (mCallB (BI.sem (.len)) (mCons (mVar 0) mNil)))) (sSeq (sRet (mBin idxD (mVar 0) (mVar 1)))
  sNext) sNext)
  (sSeq (sRet (mC (.int 0)))
  sNext))
theorem b__law_cell_at {W : Wd} (z_len : BltW W "len") : ∀ F E X, Sx W ⟨["_law_script", "_law_k"], defScope st__law_cell_at, fun _ => true⟩ E X → PSs X (defBody st__law_cell_at) (TSx (W.g.wF F) E (m__law_cell_at)) := fun F E X b =>
  (ms_cons (ms_if (b.tcmp .lt rfl rfl (b.var (i := 1) (by decide +kernel)) (b.bi (.len) rfl z_len (by decide +kernel) (ar_cons (b.var (i := 0) (by decide +kernel)) ar_nil rfl))) (ms_cons (ms_ret (b.idx (b.var (i := 0) (by decide +kernel)) (b.var (i := 1) (by decide +kernel)) rfl))
  ms_nil) ms_nil)
  (ms_cons (ms_ret r_int)
  ms_nil))
def s__law_cell_at : List D → Sto → Rs D := callM 2 m__law_cell_at
theorem k__law_cell_at : ∀ ds s, s__law_cell_at ds s = .bad ∨ callM 2 m__law_cell_at ds s = s__law_cell_at ds s := fun _ _ => .inr rfl
theorem sc__law_texts : FnScope ["_law_cast", "_law_rows_here", "_law_texts_here", "_law_marks", "_law_text", "_law_k"] ["_law_cast", "_law_rows_here"] (defScope st__law_texts) := ⟨rfl, rfl, rfl, by decide +kernel, rfl, by decide +kernel, by decide +kernel⟩
def m__law_texts_f0 : MD Fl :=
  (sSeq (sAsg (mC (.str "-")) (tgName 4))
  (sSeq (sIf (mTest (mBin (Cm.sem .ne) (mVar 3) (mLst false mNil))) (sSeq (sAsg (mBM (BM.ty .join) (BM.sem .join) (mC (.str " ")) (mCons (mLc false [5] (mRng (mCons (mCallB (BI.sem (.len)) (mCons (mVar 3) mNil)) mNil)) (tgName 5) mYes (mBin idxD (mVar 3) (mBin subD (mBin subD (mCallB (BI.sem (.len)) (mCons (mVar 3) mNil)) (mC (.int 1))) (mVar 5)))) mNil)) (tgName 4))
  sNext) sNext)
  (sSeq (sAsg (mBin (addD false) (mLst false (mCons (mVar 4) mNil)) (mVar 2)) (tgName 2))
  sNext)))
@[simp] def m__law_texts : MD Fl :=
  (sSeq (sAsg (mLst false (mCons (mBin (addD false) (mC (.str "cast ")) (mCallB (BI.sem (.str)) (mCons (mVar 0) mNil))) mNil)) (tgName 2))
  (sSeq (sFor (mSrc (mVar 1)) (tgName 3) m__law_texts_f0)
  (sSeq (sRet (mVar 2))
  sNext)))
theorem b__law_texts {W : Wd} (z_range : BltW W "range") (z_len : BltW W "len") (z_str : BltW W "str") : ∀ F E X, Sx W ⟨["_law_cast", "_law_rows_here", "_law_texts_here", "_law_marks", "_law_text", "_law_k"], defScope st__law_texts, fun _ => true⟩ E X → PSs X (defBody st__law_texts) (TSx (W.g.wF F) E (m__law_texts)) := fun F E X b =>
  (ms_cons (ms_asg (vs := [2]) (r_lst false (ar_cons (b.add false r_str (b.bi (.str) rfl z_str (by decide +kernel) (ar_cons (b.var (i := 0) (by decide +kernel)) ar_nil rfl))) ar_nil rfl) (by decide)) (b.tname (i := 2) (by decide +kernel) (by decide)) rfl (.inr rfl) rfl)
  (ms_cons (b.for_ (vs := [3]) (b.src (b.var (i := 1) (by decide +kernel))) (b.tname (i := 3) (by decide +kernel) (by decide)) (ms_cons (ms_asg (vs := [4]) r_str (b.tname (i := 4) (by decide +kernel) (by decide)) rfl (.inl rfl) rfl)
  (ms_cons (ms_if (b.tcmp .ne rfl rfl (b.var (i := 3) (by decide +kernel)) (r_lst false ar_nil (by decide))) (ms_cons (ms_asg (vs := [4]) (b.bm .join rfl rfl r_str rfl (ar_cons (b.lc false [("_law_k", 5)] ⟨rfl, by decide +kernel, by decide +kernel, by decide +kernel, by decide +kernel⟩ (b.rng1 z_range (by decide +kernel) (ar_cons (b.bi (.len) rfl z_len (by decide +kernel) (ar_cons (b.var (i := 3) (by decide +kernel)) ar_nil rfl)) ar_nil rfl)) (fun _ _ b' => ⟨(b'.tname (i := 5) (by decide +kernel) (by decide)), r_ifs0, (b'.idx (b'.var (i := 3) (by decide +kernel)) (b'.sub (b'.sub (b'.bi (.len) rfl z_len (by decide +kernel) (ar_cons (b'.var (i := 3) (by decide +kernel)) ar_nil rfl)) r_int) (b'.var (i := 5) (by decide +kernel))) rfl)⟩) (fun _ => rfl)) ar_nil rfl) (by decide) rfl) (b.tname (i := 4) (by decide +kernel) (by decide)) rfl (.inl rfl) rfl)
  ms_nil) ms_nil)
  (ms_cons (ms_asg (vs := [2]) (b.add false (r_lst false (ar_cons (b.var (i := 4) (by decide +kernel)) ar_nil rfl) (by decide)) (b.var (i := 2) (by decide +kernel))) (b.tname (i := 2) (by decide +kernel) (by decide)) rfl (.inl rfl) rfl)
  ms_nil))) (fun _ => rfl))
  (ms_cons (ms_ret (b.var (i := 2) (by decide +kernel)))
  ms_nil)))
def s__law_texts : List D → Sto → Rs D := callM 6 m__law_texts
theorem k__law_texts : ∀ ds s, s__law_texts ds s = .bad ∨ callM 6 m__law_texts ds s = s__law_texts ds s := fun _ _ => .inr rfl
theorem sc__law_mark : FnScope ["_law_number", "_law_kind", "_law_more"] ["_law_number"] (defScope st__law_mark) := ⟨rfl, rfl, rfl, by decide +kernel, rfl, by decide +kernel, by decide +kernel⟩
@[simp] def m__law_mark : MD Fl :=
  (sSeq (sAsg (mBin modD (mVar 0) (mC (.int 8))) (tgName 1))
  (sSeq (sAsg (mBin divD (mVar 0) (mC (.int 8))) (tgName 2))
  (sSeq (sIf (mTest (mBin (Cm.sem .lt) (mVar 1) (mC (.int 3)))) (sSeq (sRet (mBin idxD (mC (.str "kpsob")) (mBin modD (mVar 2) (mC (.int 5)))))
  sNext) sNext)
  (sSeq (sIf (mTest (mBin (Cm.sem .eq) (mVar 1) (mC (.int 3)))) (sSeq (sRet (mBin (addD false) (mBin idxD (mC (.str "hf")) (mBin modD (mVar 2) (mC (.int 2)))) (mBin idxD (mC (.str "wxyz")) (mBin modD (mBin divD (mVar 2) (mC (.int 2))) (mC (.int 4))))))
  sNext) sNext)
  (sSeq (sIf (mTest (mBin (Cm.sem .eq) (mVar 1) (mC (.int 4)))) (sSeq (sRet (mBin (addD false) (mBin (addD false) (mBin idxD (mC (.str "kp")) (mBin modD (mVar 2) (mC (.int 2)))) (mBin idxD (mC (.str "234")) (mBin modD (mBin divD (mVar 2) (mC (.int 2))) (mC (.int 3))))) (mBin idxD (mC (.str "rl")) (mBin modD (mBin divD (mVar 2) (mC (.int 6))) (mC (.int 2))))))
  sNext) sNext)
  (sSeq (sIf (mTest (mBin (Cm.sem .eq) (mVar 1) (mC (.int 5)))) (sSeq (sRet (mBin (addD false) (mBin (addD false) (mBin idxD (mC (.str "kp")) (mBin modD (mVar 2) (mC (.int 2)))) (mC (.str "x"))) (mBin idxD (mC (.str "234")) (mBin modD (mBin divD (mVar 2) (mC (.int 2))) (mC (.int 3))))))
  sNext) sNext)
  (sSeq (sRet (mBin (addD false) (mBin (addD false) (mBin (addD false) (mBin idxD (mC (.str "cq")) (mBin modD (mVar 2) (mC (.int 2)))) (mBin idxD (mC (.str "1234")) (mBin modD (mBin divD (mVar 2) (mC (.int 2))) (mC (.int 4))))) (mBin idxD (mC (.str "fb")) (mBin modD (mBin divD (mVar 2) (mC (.int 8))) (mC (.int 2))))) (mBin idxD (mC (.str "1234")) (mBin modD (mBin divD (mVar 2) (mC (.int 16))) (mC (.int 4))))))
  sNext)))))))
theorem b__law_mark {W : Wd}  : ∀ F E X, Sx W ⟨["_law_number", "_law_kind", "_law_more"], defScope st__law_mark, fun _ => true⟩ E X → PSs X (defBody st__law_mark) (TSx (W.g.wF F) E (m__law_mark)) := fun F E X b =>
  (ms_cons (ms_asg (vs := [1]) (b.mod (b.var (i := 0) (by decide +kernel)) r_int) (b.tname (i := 1) (by decide +kernel) (by decide)) rfl (.inl rfl) rfl)
  (ms_cons (ms_asg (vs := [2]) (b.div (b.var (i := 0) (by decide +kernel)) r_int) (b.tname (i := 2) (by decide +kernel) (by decide)) rfl (.inl rfl) rfl)
  (ms_cons (ms_if (b.tcmp .lt rfl rfl (b.var (i := 1) (by decide +kernel)) r_int) (ms_cons (ms_ret (b.idx r_str (b.mod (b.var (i := 2) (by decide +kernel)) r_int) rfl))
  ms_nil) ms_nil)
  (ms_cons (ms_if (b.tcmp .eq rfl rfl (b.var (i := 1) (by decide +kernel)) r_int) (ms_cons (ms_ret (b.add false (b.idx r_str (b.mod (b.var (i := 2) (by decide +kernel)) r_int) rfl) (b.idx r_str (b.mod (b.div (b.var (i := 2) (by decide +kernel)) r_int) r_int) rfl)))
  ms_nil) ms_nil)
  (ms_cons (ms_if (b.tcmp .eq rfl rfl (b.var (i := 1) (by decide +kernel)) r_int) (ms_cons (ms_ret (b.add false (b.add false (b.idx r_str (b.mod (b.var (i := 2) (by decide +kernel)) r_int) rfl) (b.idx r_str (b.mod (b.div (b.var (i := 2) (by decide +kernel)) r_int) r_int) rfl)) (b.idx r_str (b.mod (b.div (b.var (i := 2) (by decide +kernel)) r_int) r_int) rfl)))
  ms_nil) ms_nil)
  (ms_cons (ms_if (b.tcmp .eq rfl rfl (b.var (i := 1) (by decide +kernel)) r_int) (ms_cons (ms_ret (b.add false (b.add false (b.idx r_str (b.mod (b.var (i := 2) (by decide +kernel)) r_int) rfl) r_str) (b.idx r_str (b.mod (b.div (b.var (i := 2) (by decide +kernel)) r_int) r_int) rfl)))
  ms_nil) ms_nil)
  (ms_cons (ms_ret (b.add false (b.add false (b.add false (b.idx r_str (b.mod (b.var (i := 2) (by decide +kernel)) r_int) rfl) (b.idx r_str (b.mod (b.div (b.var (i := 2) (by decide +kernel)) r_int) r_int) rfl)) (b.idx r_str (b.mod (b.div (b.var (i := 2) (by decide +kernel)) r_int) r_int) rfl)) (b.idx r_str (b.mod (b.div (b.var (i := 2) (by decide +kernel)) r_int) r_int) rfl)))
  ms_nil)))))))
def s__law_mark (ds : List D) (s : Sto) : Rs D := pgD (callM 3 m__law_mark) ds s
theorem k__law_mark : ∀ ds s, s__law_mark ds s = .bad ∨ pgD (callM 3 m__law_mark) ds s = s__law_mark ds s := fun _ _ => .inr rfl
theorem sc__law_rows : FnScope ["_law_script", "_law_rows_here", "_law_cell"] ["_law_script"] (defScope st__law_rows) := ⟨rfl, rfl, rfl, by decide +kernel, rfl, by decide +kernel, by decide +kernel⟩
def m__law_rows_f0 : MD Fl :=
  (sSeq (sIf (mTest (mOr (mBin (Cm.sem .eq) (mBin modD (mVar 2) (mC (.int 5))) (mC (.int 0))) (mBin (Cm.sem .eq) (mVar 1) (mLst false mNil)))) (sSeq (sExpr (mBM (BM.ty .append) (BM.sem .append) (mVar 1) (mCons (mLst true mNil) mNil)))
  sNext) sNext)
  (sSeq (sIf (mTest (mBin (Cm.sem .ne) (mBin modD (mVar 2) (mC (.int 5))) (mC (.int 0)))) (sSeq (sExpr (mBM (BM.ty .append) (BM.sem .append) (mBin idxD (mVar 1) (mNeg (mC (.int 1)))) (mCons (mCall s__law_mark [] (mCons (mBin modD (mBin mulD (mBin (addD false) (mBin modD (mBin divD (mVar 2) (mC (.int 5))) (mBin powD (mC (.int 10)) (mC (.int 9)))) (mC (.int 7))) (mC (.int 69621))) (mC (.int 2147483647))) mNil)) mNil)))
  sNext) sNext)
  sNext))
@[simp] def m__law_rows : MD Fl :=
  (sSeq (sAsg (mLst true mNil) (tgName 1))
  (sSeq (sFor (mSrc (mSl false (mVar 0) (mPart (mC (.int 3))) (mPart (mC (.int 87))))) (tgName 2) m__law_rows_f0)
  (sSeq (sRet (mVar 1))
  sNext)))
theorem b__law_rows {W : Wd} (h__law_mark_0 : CallW W "_law_mark" 1 s__law_mark []) : ∀ F E X, Sx W ⟨["_law_script", "_law_rows_here", "_law_cell"], defScope st__law_rows, fun _ => true⟩ E X → PSs X (defBody st__law_rows) (TSx (W.g.wF F) E (m__law_rows)) := fun F E X b =>
  (ms_cons (ms_asg (vs := [1]) (r_lst true ar_nil (by decide)) (b.tname (i := 1) (by decide +kernel) (by decide)) rfl (.inr rfl) rfl)
  (ms_cons (b.for_ (vs := [2]) (b.src (b.sl false (b.var (i := 0) (by decide +kernel)) (mo_some r_int) (mo_some r_int))) (b.tname (i := 2) (by decide +kernel) (by decide)) (ms_cons (ms_if (PW.pt (mt_or (b.tcmp .eq rfl rfl (b.mod (b.var (i := 2) (by decide +kernel)) r_int) r_int) (pw_or1 (b.tcmp .eq rfl rfl (b.var (i := 1) (by decide +kernel)) (r_lst false ar_nil (by decide)))))) (ms_cons (ms_expr (b.bm .append rfl rfl (b.var (i := 1) (by decide +kernel)) rfl (ar_cons (r_lst true ar_nil (by decide)) ar_nil rfl) (by decide) rfl) rfl)
  ms_nil) ms_nil)
  (ms_cons (ms_if (b.tcmp .ne rfl rfl (b.mod (b.var (i := 2) (by decide +kernel)) r_int) r_int) (ms_cons (ms_expr (b.bm .append rfl rfl (b.idx (b.var (i := 1) (by decide +kernel)) (me_neg r_int) rfl) rfl (ar_cons (b.call h__law_mark_0 (by decide +kernel) (ar_cons (b.mod (b.mul (b.add false (b.mod (b.div (b.var (i := 2) (by decide +kernel)) r_int) (b.pow r_int r_int)) r_int) r_int) r_int) ar_nil rfl) rfl) ar_nil rfl) (by decide) rfl) rfl)
  ms_nil) ms_nil)
  ms_nil)) (fun _ => rfl))
  (ms_cons (ms_ret (b.var (i := 1) (by decide +kernel)))
  ms_nil)))
def s__law_rows (ds : List D) (s : Sto) : Rs D := pgD (callM 3 m__law_rows) ds s
theorem k__law_rows : ∀ ds s, s__law_rows ds s = .bad ∨ pgD (callM 3 m__law_rows) ds s = s__law_rows ds s := fun _ _ => .inr rfl
theorem sc_law : FnScope ["_law_script", "_law_cast", "_law_rows_here", "_law_texts_here", "_law_handed", "_law_number"] ["_law_script"] (defScope st_law) := ⟨rfl, rfl, rfl, by decide +kernel, rfl, by decide +kernel, by decide +kernel⟩
@[simp] def m_law : MD Fl :=
  (sSeq (sAsg (mBin modD (mCall s__law_cell_at [] (mCons (mVar 0) (mCons (mC (.int 0)) mNil))) (mBin powD (mC (.int 10)) (mC (.int 9)))) (tgName 1))
  (sSeq (sIf (mTest (mBin (Cm.sem .eq) (mBin modD (mCall s__law_cell_at [] (mCons (mVar 0) (mCons (mC (.int 1)) mNil))) (mC (.int 3))) (mC (.int 1)))) (sSeq (sAsg (mBin modD (mVar 1) (mC (.int 12))) (tgName 1))
  sNext) sNext)
  (sSeq (sAsg (mCall s__law_rows [] (mCons (mVar 0) mNil)) (tgName 2))
  (sSeq (sAsg (mCall s__law_texts [] (mCons (mVar 1) (mCons (mVar 2) mNil))) (tgName 3))
  (sSeq (sAsg (mCallB (BI.sem (.list false)) (mCons (mVar 3) mNil)) (tgName 4))
  (sSeq (sIf (mTest (mNot (mCall s__law_read [] (mCons (mVar 4) (mCons (mVar 1) (mCons (mVar 2) mNil)))))) (sSeq (sRet (mC (.bl false)))
  sNext) sNext)
  (sSeq (sAsg (mBin modD (mCall s__law_cell_at [] (mCons (mVar 0) (mCons (mC (.int 2)) mNil))) (mBin powD (mC (.int 10)) (mC (.int 9)))) (tgName 5))
  (sSeq (sIf (mTest (mNot (mCall s__law_refused [] (mCons (mCall s__law_spoiled [] (mCons (mVar 3) (mCons (mBin modD (mBin divD (mCall s__law_cell_at [] (mCons (mVar 0) (mCons (mC (.int 1)) mNil))) (mC (.int 3))) (mBin powD (mC (.int 10)) (mC (.int 9)))) (mCons (mVar 5) mNil)))) mNil)))) (sSeq (sRet (mC (.bl false)))
  sNext) sNext)
  (sSeq (sRet (mAnd (mCall s__law_read [] (mCons (mVar 4) (mCons (mVar 1) (mCons (mVar 2) mNil)))) (mBin (Cm.sem .eq) (mVar 4) (mVar 3))))
  sNext)))))))))
theorem b_law {W : Wd} (h__law_read_0 : CallW W "_law_read" 3 s__law_read []) (h__law_cell_at_0 : CallW W "_law_cell_at" 2 s__law_cell_at []) (h__law_spoiled_0 : CallW W "_law_spoiled" 3 s__law_spoiled []) (h__law_refused_0 : CallW W "_law_refused" 1 s__law_refused []) (z_list : BltW W "list") (h__law_texts_0 : CallW W "_law_texts" 2 s__law_texts []) (h__law_rows_0 : CallW W "_law_rows" 1 s__law_rows []) : ∀ F E X, Sx W ⟨["_law_script", "_law_cast", "_law_rows_here", "_law_texts_here", "_law_handed", "_law_number"], defScope st_law, fun _ => true⟩ E X → PSs X (defBody st_law) (TSx (W.g.wF F) E (m_law)) := fun F E X b =>
  (ms_cons (ms_asg (vs := [1]) (b.mod (b.call h__law_cell_at_0 (by decide +kernel) (ar_cons (b.var (i := 0) (by decide +kernel)) (ar_cons r_int ar_nil rfl) rfl) rfl) (b.pow r_int r_int)) (b.tname (i := 1) (by decide +kernel) (by decide)) rfl (.inl rfl) rfl)
  (ms_cons (ms_if (b.tcmp .eq rfl rfl (b.mod (b.call h__law_cell_at_0 (by decide +kernel) (ar_cons (b.var (i := 0) (by decide +kernel)) (ar_cons r_int ar_nil rfl) rfl) rfl) r_int) r_int) (ms_cons (ms_asg (vs := [1]) (b.mod (b.var (i := 1) (by decide +kernel)) r_int) (b.tname (i := 1) (by decide +kernel) (by decide)) rfl (.inl rfl) rfl)
  ms_nil) ms_nil)
  (ms_cons (ms_asg (vs := [2]) (b.call h__law_rows_0 (by decide +kernel) (ar_cons (b.var (i := 0) (by decide +kernel)) ar_nil rfl) rfl) (b.tname (i := 2) (by decide +kernel) (by decide)) rfl (.inl rfl) rfl)
  (ms_cons (ms_asg (vs := [3]) (b.call h__law_texts_0 (by decide +kernel) (ar_cons (b.var (i := 1) (by decide +kernel)) (ar_cons (b.var (i := 2) (by decide +kernel)) ar_nil rfl) rfl) rfl) (b.tname (i := 3) (by decide +kernel) (by decide)) rfl (.inl rfl) rfl)
  (ms_cons (ms_asg (vs := [4]) (b.bi (.list false) rfl z_list (by decide +kernel) (ar_cons (b.var (i := 3) (by decide +kernel)) ar_nil rfl)) (b.tname (i := 4) (by decide +kernel) (by decide)) rfl (.inl rfl) rfl)
  (ms_cons (ms_if (mt_not (mt_val (b.call h__law_read_0 (by decide +kernel) (ar_cons (b.var (i := 4) (by decide +kernel)) (ar_cons (b.var (i := 1) (by decide +kernel)) (ar_cons (b.var (i := 2) (by decide +kernel)) ar_nil rfl) rfl) rfl) rfl) (fun _ => rfl))) (ms_cons (ms_ret r_bl)
  ms_nil) ms_nil)
  (ms_cons (ms_asg (vs := [5]) (b.mod (b.call h__law_cell_at_0 (by decide +kernel) (ar_cons (b.var (i := 0) (by decide +kernel)) (ar_cons r_int ar_nil rfl) rfl) rfl) (b.pow r_int r_int)) (b.tname (i := 5) (by decide +kernel) (by decide)) rfl (.inl rfl) rfl)
  (ms_cons (ms_if (mt_not (mt_val (b.call h__law_refused_0 (by decide +kernel) (ar_cons (b.call h__law_spoiled_0 (by decide +kernel) (ar_cons (b.var (i := 3) (by decide +kernel)) (ar_cons (b.mod (b.div (b.call h__law_cell_at_0 (by decide +kernel) (ar_cons (b.var (i := 0) (by decide +kernel)) (ar_cons r_int ar_nil rfl) rfl) rfl) r_int) (b.pow r_int r_int)) (ar_cons (b.var (i := 5) (by decide +kernel)) ar_nil rfl) rfl) rfl) rfl) ar_nil rfl) rfl) (fun _ => rfl))) (ms_cons (ms_ret r_bl)
  ms_nil) ms_nil)
  (ms_cons (ms_ret (me_and (b.call h__law_read_0 (by decide +kernel) (ar_cons (b.var (i := 4) (by decide +kernel)) (ar_cons (b.var (i := 1) (by decide +kernel)) (ar_cons (b.var (i := 2) (by decide +kernel)) ar_nil rfl) rfl) rfl) rfl) (pe_one (b.cmp .eq rfl rfl (b.var (i := 4) (by decide +kernel)) (b.var (i := 3) (by decide +kernel))))))
  ms_nil)))))))))
def s_law : List D → Sto → Rs D := callM 6 m_law
theorem k_law : ∀ ds s, s_law ds s = .bad ∨ callM 6 m_law ds s = s_law ds s := fun _ _ => .inr rfl
def mk0 : List (Str × D) := [("k", .obj 13 [.int 1]), ("p", .obj 13 [.int (-1)]), ("s", .obj 14 []), ("o", .obj 15 []), ("b", .obj 19 []), ("hw", .obj 20 [.str "w"]), ("hx", .obj 20 [.str "x"]), ("hy", .obj 20 [.str "y"]), ("hz", .obj 20 [.str "z"]), ("fw", .obj 21 [.str "w"]), ("fx", .obj 21 [.str "x"]), ("fy", .obj 21 [.str "y"]), ("fz", .obj 21 [.str "z"]), ("k2r", .obj 16 [.int 2, .str "r", .int 1]), ("k2l", .obj 16 [.int 2, .str "l", .int 1]), ("k3r", .obj 16 [.int 3, .str "r", .int 1])]
def mk1 : List (Str × D) := [("k3l", .obj 16 [.int 3, .str "l", .int 1]), ("k4r", .obj 16 [.int 4, .str "r", .int 1]), ("k4l", .obj 16 [.int 4, .str "l", .int 1]), ("p2r", .obj 16 [.int 2, .str "r", .int (-1)]), ("p2l", .obj 16 [.int 2, .str "l", .int (-1)]), ("p3r", .obj 16 [.int 3, .str "r", .int (-1)]), ("p3l", .obj 16 [.int 3, .str "l", .int (-1)]), ("p4r", .obj 16 [.int 4, .str "r", .int (-1)]), ("p4l", .obj 16 [.int 4, .str "l", .int (-1)]), ("kx2", .obj 17 [.int 2, .int 1]), ("kx3", .obj 17 [.int 3, .int 1]), ("kx4", .obj 17 [.int 4, .int 1]), ("px2", .obj 17 [.int 2, .int (-1)]), ("px3", .obj 17 [.int 3, .int (-1)]), ("px4", .obj 17 [.int 4, .int (-1)]), ("c1f1", .obj 18 [.int 1, .int 1, .str "f", .int 1])]
def mk2 : List (Str × D) := [("c1f2", .obj 18 [.int 1, .int 2, .str "f", .int 1]), ("c1f3", .obj 18 [.int 1, .int 3, .str "f", .int 1]), ("c1f4", .obj 18 [.int 1, .int 4, .str "f", .int 1]), ("c1b1", .obj 18 [.int 1, .int 1, .str "b", .int 1]), ("c1b2", .obj 18 [.int 1, .int 2, .str "b", .int 1]), ("c1b3", .obj 18 [.int 1, .int 3, .str "b", .int 1]), ("c1b4", .obj 18 [.int 1, .int 4, .str "b", .int 1]), ("c2f1", .obj 18 [.int 2, .int 1, .str "f", .int 1]), ("c2f2", .obj 18 [.int 2, .int 2, .str "f", .int 1]), ("c2f3", .obj 18 [.int 2, .int 3, .str "f", .int 1]), ("c2f4", .obj 18 [.int 2, .int 4, .str "f", .int 1]), ("c2b1", .obj 18 [.int 2, .int 1, .str "b", .int 1]), ("c2b2", .obj 18 [.int 2, .int 2, .str "b", .int 1]), ("c2b3", .obj 18 [.int 2, .int 3, .str "b", .int 1]), ("c2b4", .obj 18 [.int 2, .int 4, .str "b", .int 1]), ("c3f1", .obj 18 [.int 3, .int 1, .str "f", .int 1])]
def mk3 : List (Str × D) := [("c3f2", .obj 18 [.int 3, .int 2, .str "f", .int 1]), ("c3f3", .obj 18 [.int 3, .int 3, .str "f", .int 1]), ("c3f4", .obj 18 [.int 3, .int 4, .str "f", .int 1]), ("c3b1", .obj 18 [.int 3, .int 1, .str "b", .int 1]), ("c3b2", .obj 18 [.int 3, .int 2, .str "b", .int 1]), ("c3b3", .obj 18 [.int 3, .int 3, .str "b", .int 1]), ("c3b4", .obj 18 [.int 3, .int 4, .str "b", .int 1]), ("c4f1", .obj 18 [.int 4, .int 1, .str "f", .int 1]), ("c4f2", .obj 18 [.int 4, .int 2, .str "f", .int 1]), ("c4f3", .obj 18 [.int 4, .int 3, .str "f", .int 1]), ("c4f4", .obj 18 [.int 4, .int 4, .str "f", .int 1]), ("c4b1", .obj 18 [.int 4, .int 1, .str "b", .int 1]), ("c4b2", .obj 18 [.int 4, .int 2, .str "b", .int 1]), ("c4b3", .obj 18 [.int 4, .int 3, .str "b", .int 1]), ("c4b4", .obj 18 [.int 4, .int 4, .str "b", .int 1]), ("q1f1", .obj 18 [.int 1, .int 1, .str "f", .int (-1)])]
def mk4 : List (Str × D) := [("q1f2", .obj 18 [.int 1, .int 2, .str "f", .int (-1)]), ("q1f3", .obj 18 [.int 1, .int 3, .str "f", .int (-1)]), ("q1f4", .obj 18 [.int 1, .int 4, .str "f", .int (-1)]), ("q1b1", .obj 18 [.int 1, .int 1, .str "b", .int (-1)]), ("q1b2", .obj 18 [.int 1, .int 2, .str "b", .int (-1)]), ("q1b3", .obj 18 [.int 1, .int 3, .str "b", .int (-1)]), ("q1b4", .obj 18 [.int 1, .int 4, .str "b", .int (-1)]), ("q2f1", .obj 18 [.int 2, .int 1, .str "f", .int (-1)]), ("q2f2", .obj 18 [.int 2, .int 2, .str "f", .int (-1)]), ("q2f3", .obj 18 [.int 2, .int 3, .str "f", .int (-1)]), ("q2f4", .obj 18 [.int 2, .int 4, .str "f", .int (-1)]), ("q2b1", .obj 18 [.int 2, .int 1, .str "b", .int (-1)]), ("q2b2", .obj 18 [.int 2, .int 2, .str "b", .int (-1)]), ("q2b3", .obj 18 [.int 2, .int 3, .str "b", .int (-1)]), ("q2b4", .obj 18 [.int 2, .int 4, .str "b", .int (-1)]), ("q3f1", .obj 18 [.int 3, .int 1, .str "f", .int (-1)])]
def mk5 : List (Str × D) := [("q3f2", .obj 18 [.int 3, .int 2, .str "f", .int (-1)]), ("q3f3", .obj 18 [.int 3, .int 3, .str "f", .int (-1)]), ("q3f4", .obj 18 [.int 3, .int 4, .str "f", .int (-1)]), ("q3b1", .obj 18 [.int 3, .int 1, .str "b", .int (-1)]), ("q3b2", .obj 18 [.int 3, .int 2, .str "b", .int (-1)]), ("q3b3", .obj 18 [.int 3, .int 3, .str "b", .int (-1)]), ("q3b4", .obj 18 [.int 3, .int 4, .str "b", .int (-1)]), ("q4f1", .obj 18 [.int 4, .int 1, .str "f", .int (-1)]), ("q4f2", .obj 18 [.int 4, .int 2, .str "f", .int (-1)]), ("q4f3", .obj 18 [.int 4, .int 3, .str "f", .int (-1)]), ("q4f4", .obj 18 [.int 4, .int 4, .str "f", .int (-1)]), ("q4b1", .obj 18 [.int 4, .int 1, .str "b", .int (-1)]), ("q4b2", .obj 18 [.int 4, .int 2, .str "b", .int (-1)]), ("q4b3", .obj 18 [.int 4, .int 3, .str "b", .int (-1)]), ("q4b4", .obj 18 [.int 4, .int 4, .str "b", .int (-1)])]
def mkT : List (Str × D) := mk0 ++ mk1 ++ mk2 ++ mk3 ++ mk4 ++ mk5
def mkL : List Str := mkT.map (·.1)
def stO (m : Str) : D := ((mkT.find? fun p => decide (p.1 = m)).map (·.2)).getD .non
def mkOf (d : D) : Rs D := match d with
  | .obj c ds => (match d_mark c with
    | some φ => φ [.obj c ds] []
    | none => .bad)
  | _ => .bad
def chkM (p : Str × D) : Bool := okIs (s_stitch [.str p.1] []) p.2 && nrB p.2 && okIs (mkOf p.2) (.str p.1) && decide (1 ≤ p.1.length) && decide (p.1.length ≤ 4)
theorem ck_0 : mk0.all chkM = true := by decide +kernel
theorem ck_1 : mk1.all chkM = true := by decide +kernel
theorem ck_2 : mk2.all chkM = true := by decide +kernel
theorem ck_3 : mk3.all chkM = true := by decide +kernel
theorem ck_4 : mk4.all chkM = true := by decide +kernel
theorem ck_5 : mk5.all chkM = true := by decide +kernel
theorem ck_all (m : Str × D) (h : m ∈ mkT) : chkM m = true := by
  unfold mkT at h
  simp only [List.mem_append] at h
  rcases h with ((((h | h) | h) | h) | h) | h
  · exact List.all_eq_true.mp ck_0 m h
  · exact List.all_eq_true.mp ck_1 m h
  · exact List.all_eq_true.mp ck_2 m h
  · exact List.all_eq_true.mp ck_3 m h
  · exact List.all_eq_true.mp ck_4 m h
  · exact List.all_eq_true.mp ck_5 m h
theorem st_mem {m : Str} (h : m ∈ mkL) : (m, stO m) ∈ mkT := by
  obtain ⟨p, hp, e⟩ := List.mem_map.mp h
  unfold stO
  cases q : mkT.find? fun p => decide (p.1 = m) with
  | none =>
    have := List.find?_eq_none.mp q p hp
    simp [e] at this
  | some r =>
    have h1 := List.find?_some q
    have h2 := List.mem_of_find?_eq_some q
    have h3 : r.1 = m := of_decide_eq_true h1
    show (m, r.2) ∈ mkT
    rw [← h3]
    exact h2
theorem ck_of {m : Str} (h : m ∈ mkL) : (okIs (s_stitch [.str m] []) (stO m) = true ∧ nrB (stO m) = true) ∧ okIs (mkOf (stO m)) (.str m) = true ∧ 1 ≤ m.length ∧ m.length ≤ 4 := by
  have c := ck_all _ (st_mem h)
  unfold chkM at c
  simp only [Bool.and_eq_true, decide_eq_true_eq] at c
  exact ⟨c.1.1.1, c.1.1.2, c.1.2, c.2⟩
theorem st_ok {m : Str} (h : m ∈ mkL) (s : Sto) : s_stitch [.str m] s = .ok (stO m) s := by
  have e := okIs_ok (ck_of h).1.1
  unfold s_stitch at e ⊢
  exact pgD_any e s
theorem st_nr {m : Str} (h : m ∈ mkL) : nrB (stO m) = true := (ck_of h).1.2
theorem mk_len {m : Str} (h : m ∈ mkL) : 1 ≤ m.length ∧ m.length ≤ 4 := (ck_of h).2.2
theorem st_obj {m : Str} (h : m ∈ mkL) : ∃ c ds φ, stO m = .obj c ds ∧ d_mark c = some φ ∧ φ [.obj c ds] [] = .ok (.str m) [] := by
  have e := okIs_ok (ck_of h).2.1
  unfold mkOf at e
  split at e
  · rename_i c ds q
    split at e
    · rename_i φ q2
      exact ⟨c, ds, φ, q, q2, e⟩
    · cases e
  · cases e
theorem mk_any {c : Nat} {φ : List D → Sto → Rs D} (h : d_mark c = some φ) : ∃ ψ, φ = fun ds s => pgD ψ ds s := by
  unfold d_mark at h
  iterate 22 (cases c with | zero => (first | (cases h; done) | exact ⟨_, (Option.some.inj h).symm⟩) | succ c => ?_)
  cases h
/-- x.mark() of a stitch -/
@[simp] theorem mark_ok {m : Str} (h : m ∈ mkL) (s s' : Sto) : meth2 ((clsD (stO m) s').bind d_mark) [] (stO m) (.ok [] s) = .ok (.str m) s := by
  obtain ⟨c, ds, φ, e1, e2, e3⟩ := st_obj h
  obtain ⟨ψ, rfl⟩ := mk_any e2
  rw [e1]
  show meth2 (d_mark c) [] (.obj c ds) (.ok [] s) = _
  rw [e2]
  exact pgD_any e3 s
theorem mkIn3 : (Str.cps "kp").toList.all (fun a => (Str.cps "234").toList.all fun b => (Str.cps "rl").toList.all fun c => decide ((⟨#[a]⟩ : Str) ++ ⟨#[b]⟩ ++ ⟨#[c]⟩ ∈ mkL)) = true := by decide +kernel
theorem mkIn2 : (Str.cps "hf").toList.all (fun a => (Str.cps "wxyz").toList.all fun b => decide ((⟨#[a]⟩ : Str) ++ ⟨#[b]⟩ ∈ mkL)) = true := by decide +kernel
theorem mkInX : (Str.cps "kp").toList.all (fun a => (Str.cps "234").toList.all fun c => decide ((⟨#[a]⟩ : Str) ++ "x" ++ ⟨#[c]⟩ ∈ mkL)) = true := by decide +kernel
theorem mkIn1 : (Str.cps "kpsob").toList.all (fun a => decide ((⟨#[a]⟩ : Str) ∈ mkL)) = true := by decide +kernel
theorem mkIn4 : (Str.cps "cq").toList.all (fun a => (Str.cps "1234").toList.all fun b => (Str.cps "fb").toList.all fun c => (Str.cps "1234").toList.all fun d => decide ((⟨#[a]⟩ : Str) ++ ⟨#[b]⟩ ++ ⟨#[c]⟩ ++ ⟨#[d]⟩ ∈ mkL)) = true := by decide +kernel
theorem lm_ok (z : Int) : ∃ m ∈ mkL, ∀ s : Sto, s__law_mark [.int z] s = .ok (.str m) s := by
  have key : ∃ m ∈ mkL, callM 3 m__law_mark [.int z] [] = .ok (.str m) [] := by
    have h5 : 0 ≤ z / 8 % 5 ∧ z / 8 % 5 < 5 := by omega
    obtain ⟨c1, h1, e1⟩ := idx_pick "kpsob" (z / 8 % 5) 5 rfl (by decide) h5.1 h5.2
    obtain ⟨c2, h2, e2⟩ := idx_pick "hf" (z / 8 % 2) 2 rfl (by decide) (by omega) (by omega)
    obtain ⟨c3, h3, e3⟩ := idx_pick "wxyz" (z / 8 / 2 % 4) 4 rfl (by decide) (by omega) (by omega)
    obtain ⟨c4, h4, e4⟩ := idx_pick "kp" (z / 8 % 2) 2 rfl (by decide) (by omega) (by omega)
    obtain ⟨c5, h5, e5⟩ := idx_pick "234" (z / 8 / 2 % 3) 3 rfl (by decide) (by omega) (by omega)
    obtain ⟨c6, h6, e6⟩ := idx_pick "rl" (z / 8 / 6 % 2) 2 rfl (by decide) (by omega) (by omega)
    obtain ⟨c7, h7, e7⟩ := idx_pick "cq" (z / 8 % 2) 2 rfl (by decide) (by omega) (by omega)
    obtain ⟨c8, h8, e8⟩ := idx_pick "1234" (z / 8 / 2 % 4) 4 rfl (by decide) (by omega) (by omega)
    obtain ⟨c9, h9, e9⟩ := idx_pick "fb" (z / 8 / 8 % 2) 2 rfl (by decide) (by omega) (by omega)
    obtain ⟨ca, ha, ea⟩ := idx_pick "1234" (z / 8 / 16 % 4) 4 rfl (by decide) (by omega) (by omega)
    by_cases k3 : z % 8 < 3
    · refine ⟨_, of_decide_eq_true (List.all_eq_true.mp mkIn1 c1 h1), ?_⟩
      simp [k3, e1]
    by_cases k : z % 8 = 3
    · refine ⟨_, of_decide_eq_true (List.all_eq_true.mp (List.all_eq_true.mp mkIn2 c2 h2) c3 h3), ?_⟩
      simp [k, e2, e3, len_one, len_app]
    by_cases k4 : z % 8 = 4
    · refine ⟨_, of_decide_eq_true (List.all_eq_true.mp (List.all_eq_true.mp (List.all_eq_true.mp mkIn3 c4 h4) c5 h5) c6 h6), ?_⟩
      simp [k4, e4, e5, e6, len_one, len_app]
    by_cases k5 : z % 8 = 5
    · refine ⟨_, of_decide_eq_true (List.all_eq_true.mp (List.all_eq_true.mp mkInX c4 h4) c5 h5), ?_⟩
      simp [k5, e4, e5, len_one, len_app, show (Str.ofString "x").length = 1 from rfl]
    · refine ⟨_, of_decide_eq_true (List.all_eq_true.mp (List.all_eq_true.mp (List.all_eq_true.mp (List.all_eq_true.mp mkIn4 c7 h7) c8 h8) c9 h9) ca ha), ?_⟩
      simp [k3, k, k4, k5, e7, e8, e9, ea, len_one, len_app]
  obtain ⟨m, hm, e⟩ := key
  refine ⟨m, hm, fun s => ?_⟩
  unfold s__law_mark
  exact pgD_ok rfl e rfl
abbrev Rws := List (List Str)
def enR (R : Rws) : D := .lst (R.map fun r => .lst (r.map D.str))
def refs (n : Nat) : List D := (List.range n).map fun (j : Nat) => D.ref (j + 1)
def stR (R : Rws) : Sto := .lst (refs R.length) :: R.map fun r => Cell.lst (r.map D.str)
theorem refs_succ (n : Nat) : refs (n + 1) = refs n ++ [.ref (n + 1)] := by unfold refs; rw [List.range_succ, List.map_append]; rfl
@[simp] theorem refs_len (n : Nat) : (refs n).length = n := by simp [refs]
theorem refs_at {n i : Nat} (h : i < n) : (refs n)[i]? = some (.ref (i + 1)) := by simp [refs, h]
theorem stR_len (R : Rws) : (stR R).length = R.length + 1 := by simp [stR]
theorem stR_0 (R : Rws) : (stR R)[0]? = some (.lst (refs R.length)) := rfl
theorem stR_at (R : Rws) (i : Nat) : (stR R)[i + 1]? = (R[i]?).map fun r => Cell.lst (r.map D.str) := by simp [stR]
theorem stR_app (R : Rws) : (stR R ++ [Cell.lst []]).set 0 (Cell.lst (refs R.length ++ [D.ref (stR R).length])) = stR (R ++ [[]]) := by
  simp [stR, refs_succ]
theorem stR_put (R : Rws) (r : List Str) (m : Str) : (stR (R ++ [r])).set (R.length + 1) (Cell.lst (r.map D.str ++ [D.str m])) = stR (R ++ [r ++ [m]]) := by
  unfold stR
  simp
theorem toPy_stR (R : Rws) {s : Sto} (hs : s = stR R) : ∃ ps, allSome ((refs R.length).map (toPy s 59)) = some ps := by
  subst hs
  refine ⟨R.map fun r => .list (r.map PyData.str), allSome_ix (by simp) fun i x y h1 h2 => ?_⟩
  have hi : i < R.length := by
    have := (List.getElem?_eq_some_iff.mp h1).1
    simpa using this
  rw [refs_at hi] at h1
  cases h1
  rw [List.getElem?_map, List.getElem?_eq_getElem hi] at h2
  cases h2
  rw [toPy, stR_at, List.getElem?_eq_getElem hi]
  show (allSome ((R[i].map D.str).map _)).map _ = _
  rw [List.map_map, allSome_map (f := toPy (stR R) 58 ∘ D.str) (g := PyData.str) fun x _ => rfl]
  rfl
theorem frG_stR (R : Rws) : frG (stR R) 100 (.ref 0) = some (enR R) := by
  rw [frG, stR_0]
  show (allSome ((refs R.length).map _)).map _ = _
  rw [allSome_ix (m := R.map fun r => D.lst (r.map D.str)) (by simp) fun i x y h1 h2 => ?_]
  · rfl
  · have hi : i < R.length := by
      have := (List.getElem?_eq_some_iff.mp h1).1
      simpa using this
    rw [refs_at hi] at h1
    cases h1
    rw [List.getElem?_map, List.getElem?_eq_getElem hi] at h2
    cases h2
    rw [frG, stR_at, List.getElem?_eq_getElem hi]
    show (allSome ((R[i].map D.str).map _)).map _ = _
    rw [frG_list fun x _ => rfl]
    rfl
structure GoodR (n : Nat) (R : Rws) : Prop where
  ok : ∀ r ∈ R, ∀ m ∈ r, m ∈ mkL
  len : R.length ≤ n
  ln : ∀ r ∈ R, r.length ≤ n
theorem rows_turn {R : Rws} {n : Nat} (h : GoodR n R) (hn : n < 100) (z : Int) (x0 : Option D) : ∃ R', GoodR (n + 1) R' ∧ m__law_rows_f0 [x0, some (.ref 0), some (.int z)] (stR R) = .ok (.nx [x0, some (.ref 0), some (.int z)]) (stR R') := by
  have heq : Cm.sem .eq (.ref 0) (.lst []) (stR R) = .ok (.bl (refs R.length).isEmpty) (stR R) := eq_nil (by rfl) (toPy_stR R rfl) (by intro es q; cases q)
  have e0 : (stR R)[0]? = some (.lst (refs R.length)) := stR_0 R
  have ea : (stR R ++ [Cell.lst []])[0]? = some (.lst (refs R.length)) := by simp [stR]
  have hlen := h.len
  by_cases hz : z % 5 = 0
  · refine ⟨R ++ [[]], ⟨fun r hr => ?_, by simp; omega, fun r hr => ?_⟩, ?_⟩
    · rcases List.mem_append.mp hr with hr | hr
      · exact h.ok r hr
      · simp at hr; subst hr; simp
    · rcases List.mem_append.mp hr with hr | hr
      · exact Nat.le_succ_of_le (h.ln r hr)
      · simp at hr; subst hr; simp
    · unfold m__law_rows_f0
      simp [hz, e0, ea, -getElem?_pos, List.getElem?_cons_zero]
      rw [if_pos (by omega)]
      simp [stR_app]
  · obtain ⟨m, hm, hl⟩ := lm_ok ((z / 5 % 1000000000 + 7) * 69621 % 2147483647)
    rcases List.eq_nil_or_concat R with rfl | ⟨R, r, e⟩
    ·
      refine ⟨[[m]], ⟨fun r hr => ?_, by simp, fun r hr => ?_⟩, ?_⟩
      · simp at hr; subst hr; simpa using hm
      · simp at hr; subst hr; simp
      · have heq' : Cm.sem .eq (.ref 0) (.lst []) [.lst []] = .ok (.bl true) [.lst []] := heq
        unfold m__law_rows_f0
        simp [hz, stR, refs, heq', hl, atI, ixN]
    · rw [List.concat_eq_append] at e
      subst e
      have hr := h.ln r (by simp)
      have e1 : (stR (R ++ [r]))[0]? = some (.lst (refs R.length ++ [.ref (R.length + 1)])) := by rw [stR_0, List.length_append]; show some (Cell.lst (refs (R.length + 1))) = _; rw [refs_succ]
      have e2 : (stR (R ++ [r]))[R.length + 1]? = some (.lst (r.map D.str)) := by rw [stR_at]; simp
      have e3 : (refs (R ++ [r]).length).isEmpty = false := by rw [List.length_append]; show (refs (R.length + 1)).isEmpty = false; rw [refs_succ]; simp
      rw [e3] at heq
      refine ⟨R ++ [r ++ [m]], ⟨fun r' hr' => ?_, by simp at hlen ⊢; omega, fun r' hr' => ?_⟩, ?_⟩
      · rcases List.mem_append.mp hr' with hr' | hr'
        · exact h.ok r' (List.mem_append_left _ hr')
        · simp at hr'; subst hr'
          intro m' hm'
          rcases List.mem_append.mp hm' with hm' | hm'
          · exact h.ok r (by simp) m' hm'
          · simp at hm'; subst hm'; exact hm
      · rcases List.mem_append.mp hr' with hr' | hr'
        · exact Nat.le_succ_of_le (h.ln r' (List.mem_append_left _ hr'))
        · simp at hr'; subst hr'; simp; exact hr
      · unfold m__law_rows_f0
        simp [hz, heq, e1, e2, ix_last, hl, -getElem?_pos, List.getElem?_cons_zero]
        rw [if_pos (by omega)]
        simp [stR_put]
theorem cut_ints (ns : List Int) (lo hi : Option Int) : ∃ ms : List Int, cutD (ns.map D.int) lo hi = ms.map D.int ∧ ms.length ≤ ns.length := by
  refine ⟨(ns.drop (HT.sIx ns.length 0 lo)).take (HT.sIx ns.length ns.length hi - HT.sIx ns.length 0 lo), ?_, by rw [List.length_take, List.length_drop]; omega⟩
  unfold cutD
  rw [List.length_map, List.map_take, List.map_drop]
theorem rows_ok (ns : List Int) (h : ns.length ≤ 63) : ∃ R, GoodR 63 R ∧ ∀ s : Sto, s__law_rows [.frz (ns.map D.int)] s = .ok (enR R) s := by
  obtain ⟨ms, e1, e2⟩ := cut_ints ns (some 3) (some 87)
  obtain ⟨ρ2, s2, e3, R, hR, rfl, hρ⟩ := forM_inv (mt := tgName 2) (body := m__law_rows_f0) (gd := fun _ => true) (fun i ρ s => ∃ R, GoodR i R ∧ s = stR R ∧ ∃ x, ρ = [some (.frz (ns.map D.int)), some (.ref 0), x]) (fun _ _ _ _ => rfl) (ms.map D.int) 0 [some (.frz (ns.map D.int)), some (.ref 0), none] [.lst []]
    ⟨[], ⟨(by simp), (by simp), (by simp)⟩, rfl, _, rfl⟩ (by
      rintro j d ρ s hd ⟨R, hR, rfl, x, rfl⟩
      have hj : j < ms.length := by have := (List.getElem?_eq_some_iff.mp hd).1; simpa using this
      obtain ⟨z, _, rfl⟩ := List.mem_map.mp (List.mem_of_getElem? hd)
      obtain ⟨R', h1, h2⟩ := rows_turn hR (by omega) z (some (.frz (ns.map D.int)))
      exact ⟨_, _, _, _, rfl, .inl h2, R', h1, rfl, _, rfl⟩)
  obtain ⟨x, rfl⟩ := hρ
  rw [List.length_map, Nat.zero_add] at hR
  refine ⟨R, ⟨hR.ok, by have := hR.len; omega, fun r hr => by have := hR.ln r hr; omega⟩, fun s => ?_⟩
  unfold s__law_rows
  refine pgD_ok (by simp) (s1 := stR R) (d := .ref 0) ?_ (frG_stR R)
  simp [e1, e3]
theorem lcE_mapA {α : Type} {mt : D → MD Ro} {te : MD D} {gd : Sto → Bool} {ρ : Ro} {s : Sto} (e f : α → D) (l : List α) (hg : gd s = true) (h : ∀ a ∈ l, ∃ ρ2, mt (e a) ρ s = .ok ρ2 s ∧ te ρ2 s = .ok (f a) s) : lcE mt mYes te gd (l.map e) ρ s = .ok (l.map f) s := by
  induction l with
  | nil => simp [lcE, hg]
  | cons a l ih =>
    obtain ⟨ρ2, e1, e2⟩ := h a List.mem_cons_self
    have ih := ih fun a' ha => h a' (List.mem_cons_of_mem _ ha)
    rw [List.map_cons, lcE, if_pos hg, e1, Rs.bind_ok, mYes_e, Rs.bind_ok, if_pos rfl, e2, Rs.bind_ok, ih]
    rfl
theorem lcE_stop {α : Type} {mt : D → MD Ro} {te : MD D} {gd : Sto → Bool} {ρ : Ro} {s : Sto} (e f : α → D) (l : List α) (x : D) (rest : List D) (q : Nat) (hg : gd s = true) (h : ∀ a ∈ l, ∃ ρ2, mt (e a) ρ s = .ok ρ2 s ∧ te ρ2 s = .ok (f a) s) {ρ2 : Ro} (h1 : mt x ρ s = .ok ρ2 s) (h2 : te ρ2 s = .exc q [] s) :
    lcE mt mYes te gd (l.map e ++ x :: rest) ρ s = .exc q [] s := by
  induction l with
  | nil =>
    show lcE mt mYes te gd (x :: rest) ρ s = _
    rw [lcE, if_pos hg, h1, Rs.bind_ok, mYes_e, Rs.bind_ok, if_pos rfl, h2]
    rfl
  | cons a l ih =>
    obtain ⟨ρ3, e1, e2⟩ := h a List.mem_cons_self
    have ih := ih fun a' ha => h a' (List.mem_cons_of_mem _ ha)
    rw [List.map_cons, List.cons_append, lcE, if_pos hg, e1, Rs.bind_ok, mYes_e, Rs.bind_ok, if_pos rfl, e2, Rs.bind_ok, ih]
    rfl
theorem read_mark_ok {m : Str} (h : m ∈ mkL) (s : Sto) : s_read_mark [.str m] s = .ok (stO m) s := by
  have e := st_ok h s
  unfold s_read_mark
  simp [sTryX, sSetE, mCallE, e]
def rtx (r : List Str) : Str := if r = [] then "-" else Str.join " " r.reverse
theorem mk_free : ∀ m ∈ mkL, (tl m).contains 32 = false := by
  have : mkL.all (fun m => !(tl m).contains 32) = true := by decide +kernel
  intro m hm
  simpa using List.all_eq_true.mp this m hm
theorem mk_dash : (Str.ofString "-") ∉ mkL := by decide +kernel
theorem split_rtx {r : List Str} (h : ∀ m ∈ r, m ∈ mkL) (hr : r ≠ []) : Txt.split (rtx r) " " = r.reverse := by
  unfold rtx
  rw [if_neg hr, ← join_eq]
  refine split_join (y := " ") (s := 32) (S := []) rfl (by decide +kernel) (by simpa using hr) fun p hp => ?_
  have := mk_free p (h p (by simpa using hp))
  simpa using this
theorem rtx_dash {r : List Str} (h : ∀ m ∈ r, m ∈ mkL) (hr : r ≠ []) : ¬ rtx r = Str.ofString "-" := fun e => by
  have e1 := split_rtx h hr
  rw [e] at e1
  have e2 : Txt.split (Str.ofString "-") " " = [Str.ofString "-"] := by decide +kernel
  rw [e2] at e1
  have : Str.ofString "-" ∈ r := by
    have : Str.ofString "-" ∈ r.reverse := by rw [← e1]; simp
    simpa using this
  exact mk_dash (h _ this)
theorem join_cons (a : Str) (x : Str) {l : List Str} (h : l ≠ []) : Str.join a (x :: l) = x ++ a ++ Str.join a l := by
  cases l with
  | nil => exact absurd rfl h
  | cons y l => rfl
theorem join_size (r : List Str) (h : ∀ m ∈ r, m ∈ mkL) : (Str.join " " r).length ≤ 5 * r.length := by
  induction r with
  | nil => decide
  | cons m r ih =>
    have h1 := (mk_len (h m List.mem_cons_self)).2
    have h2 := ih fun x hx => h x (List.mem_cons_of_mem _ hx)
    by_cases hr : r = []
    · subst hr; simp [Str.join]; omega
    · rw [join_cons _ _ hr, len_app, len_app, show (Str.ofString " ").length = 1 from rfl, List.length_cons]; omega
theorem rtx_len {r : List Str} (h : ∀ m ∈ r, m ∈ mkL) (hl : r.length ≤ 63) : (rtx r).length ≤ 315 := by
  unfold rtx
  split
  · decide
  · have := join_size r.reverse fun m hm => h m (by simpa using hm)
    rw [List.length_reverse] at this
    omega
theorem read_row_ok {r : List Str} (h : ∀ m ∈ r, m ∈ mkL) (hl : r.length ≤ 63) (s : Sto) : s_read_row [.str (rtx r)] s = .ok (.lst (r.map stO)) s := by
  unfold s_read_row
  by_cases hr : r = []
  · subst hr
    simp [rtx, tyT, tyL]
  · have hd := rtx_dash h hr
    have hs : splitD (.str (rtx r)) [.str " "] s = .ok (.lst (r.reverse.map D.str)) s := by
      show (if ((Str.ofString " ").length == 0) = false ∧ (rtx r).length + 2 ≤ sizeLine then _ else _) = _
      have := rtx_len h hl
      rw [if_pos ⟨rfl, by rw [sizeLine_e]; omega⟩, split_rtx h hr]
      rfl
    have e : ∀ (ρ : Ro), ρ.length = 3 → lcE (tgName 2) mYes (mCall s_read_mark [] (mCons (mVar 2) mNil)) (fun _ => true) (r.map D.str) ρ s = .ok (r.map stO) s := fun ρ hρ => by
      refine lcE_mapA D.str stO r rfl fun m hm => ⟨_, rfl, ?_⟩
      have := read_mark_ok (h m hm) s
      simp [hρ, this]
    have e := e (wipeD [some (.str (rtx r)), some (.lst (r.reverse.map D.str)), none] [2]) rfl
    rw [List.map_reverse] at hs e
    have hl2 : r.length ≤ 16777216 := by omega
    simp [hd, hs, mLcE, e, tyT, tyL, hl2]
def nT (n : Nat) : Str := Str.ofString (toString (n : Int))
def sg (c : Nat) : Str := ⟨#[c]⟩
theorem tl_nT (n : Nat) : tl (nT n) = numL n := tl_num n
theorem nT_len {n : Nat} (h : n < 10 ^ 9) : (nT n).length ≤ 9 := by rw [len_tl, tl_nT]; exact numL_len (by decide) h
theorem int_nT {n : Nat} (h : n < 10 ^ 9) (s : Sto) : intD1 [.str (nT n)] s = .ok (.int (n : Int)) s := by
  have hl := nT_len h
  show (if (nT n).length ≤ 640 then optD (intText? (nT n)) _ else _) = _
  rw [if_pos (by omega), show intText? (nT n) = some (n : Int) from int_num (by have := numL_len (k := 9) (by decide) h; omega)]
  rfl
def ctx (n : Nat) : Str := Str.ofString "cast " ++ nT n
theorem ctx_len {n : Nat} (h : n < 10 ^ 9) : (ctx n).length ≤ 14 := by
  have := nT_len h
  unfold ctx
  rw [len_app, show (Str.ofString "cast ").length = 5 from rfl]; omega
theorem dig_in (c : Nat) (h1 : 48 ≤ c) (h2 : c ≤ 57) : inS (sg c) (Str.ofString "0123456789") = true := by
  have : c = 48 ∨ c = 49 ∨ c = 50 ∨ c = 51 ∨ c = 52 ∨ c = 53 ∨ c = 54 ∨ c = 55 ∨ c = 56 ∨ c = 57 := by omega
  rcases this with rfl | rfl | rfl | rfl | rfl | rfl | rfl | rfl | rfl | rfl <;> decide +kernel
theorem cut5 (n : Nat) : cutS (ctx n) (some 5) none = nT n := by
  refine ext_tl ?_
  show ((tl (ctx n)).drop (HT.sIx (ctx n).length 0 (some 5))).take (HT.sIx (ctx n).length (ctx n).length none - HT.sIx (ctx n).length 0 (some 5)) = _
  have hl : (ctx n).length = (nT n).length + 5 := by unfold ctx; rw [len_app, show (Str.ofString "cast ").length = 5 from rfl]; omega
  have e : HT.sIx (ctx n).length 0 (some 5) = 5 := by
    show (if (5 : Int) < 0 then ((5 : Int) + ((ctx n).length : Int)).toNat else min (5 : Int).toNat (ctx n).length) = _
    rw [if_neg (by decide), hl]
    show min 5 _ = 5
    omega
  have e2 : tl (ctx n) = tl (Str.ofString "cast ") ++ tl (nT n) := tl_append _ _
  rw [e, show HT.sIx (ctx n).length (ctx n).length none = (ctx n).length from rfl, e2, hl]
  rw [show tl (Str.ofString "cast ") = [99, 97, 115, 116, 32] from rfl]
  show ((tl (nT n))).take _ = _
  rw [len_tl]
  exact List.take_of_length_le (by omega)
theorem starts_eq (x y : Str) : Txt.startswith x y = (decide (y.length ≤ x.length) && ((tl x).take y.length == tl y)) := by
  unfold Txt.startswith
  rw [PySem.StrLaws.subAt_eq]
  simp
theorem starts_ctx (n : Nat) : Txt.startswith (ctx n) (Str.ofString "cast ") = true := by
  have hl : (ctx n).length = (nT n).length + 5 := by unfold ctx; rw [len_app, show (Str.ofString "cast ").length = 5 from rfl]; omega
  have e2 : tl (ctx n) = [99, 97, 115, 116, 32] ++ tl (nT n) := tl_append _ _
  rw [starts_eq, hl, e2, show (Str.ofString "cast ").length = 5 from rfl, show tl (Str.ofString "cast ") = [99, 97, 115, 116, 32] from rfl]
  simp
theorem numL_zero {n : Nat} (h : (numL n)[0]? = some 48) (h2 : 1 < (numL n).length) : False := by
  induction n using Nat.strongRecOn with
  | _ n ih =>
    by_cases h9 : n < 10
    · rw [numL_lt h9] at h2; simp at h2
    · rw [numL_step (by omega)] at h h2
      have hne := List.length_pos_iff.mpr (numL_ne (n / 10))
      rw [List.getElem?_append_left hne] at h
      by_cases h1 : 1 < (numL (n / 10)).length
      · exact ih (n / 10) (by omega) h h1
      · by_cases h99 : n / 10 < 10
        · rw [numL_lt h99] at h
          simp at h
          omega
        · rw [numL_step (n := n / 10) (by omega)] at h1
          have := List.length_pos_iff.mpr (numL_ne (n / 10 / 10))
          rw [List.length_append, List.length_singleton] at h1
          omega
theorem read_cast_ok {n : Nat} (h : n < 10 ^ 9) (s : Sto) : s_read_cast [.str (ctx n)] s = .ok (.int (n : Int)) s := by
  have hc := ctx_len h
  have hn := nT_len h
  have hn1 : 1 ≤ (nT n).length := by rw [len_tl, tl_nT]; exact List.length_pos_iff.mpr (numL_ne n)
  have e1 : startsD (.str (ctx n)) [.str "cast "] s = .ok (.bl true) s := by
    show Rs.ok (D.bl (Txt.startswith _ _)) s = _
    rw [starts_ctx]
  have e2 : slD false (some 5) none (.str (ctx n)) s = .ok (.str (nT n)) s := by
    show (if (ctx n).length ≤ sizeLine then _ else _) = _
    rw [if_pos (by rw [sizeLine_e]; omega), cut5]
  have e3 := int_nT h s
  obtain ⟨ρ2, e4, x, rfl⟩ := forM_fold (mt := tgName 2) (body := m_read_cast_f0) (s := s) (fun c : Nat => D.str ⟨#[c]⟩) (fun dn ρ => ∃ x, ρ = [some (.str (ctx n)), some (.str (nT n)), x]) (numL n) [some (.str (ctx n)), some (.str (nT n)), none] ⟨_, rfl⟩ (by
    rintro dn c rest ρ h0 ⟨x, rfl⟩
    have hd := numL_digits n c (by rw [h0]; simp)
    have hi := dig_in c hd.1 hd.2
    refine ⟨_, [some (.str (ctx n)), some (.str (nT n)), some (.str ⟨#[c]⟩)], rfl, .inl ?_, _, rfl⟩
    have e : Cm.sem .nin (.str ⟨#[c]⟩) (.str "0123456789") s = .ok (.bl false) s := by
      show Rs.ok (D.bl (!inS (sg c) (Str.ofString "0123456789"))) s = _
      rw [hi]; rfl
    simp [m_read_cast_f0, e])
  have hsrc : srcOf (.str (nT n)) s = some ⟨(numL n).map fun c => D.str ⟨#[c]⟩, fun _ => true⟩ := by
    show some (Src.mk ((tl (nT n)).map _) _) = _
    rw [tl_nT]
  obtain ⟨c0, hc0⟩ : ∃ c, (numL n)[0]? = some c := ⟨_, List.getElem?_eq_getElem (List.length_pos_iff.mpr (numL_ne n))⟩
  have e5 : idxD (.str (nT n)) (.int 0) s = .ok (.str ⟨#[c0]⟩) s := by
    show (if (nT n).length ≤ sizeLine then _ else _) = _
    rw [if_pos (by rw [sizeLine_e]; omega)]
    show optD (atI (tl (nT n)) 0) _ = _
    rw [tl_nT]
    cases el : numL n with
    | nil => exact absurd el (numL_ne n)
    | cons a l =>
      rw [el] at hc0
      simp at hc0
      subst hc0
      simp [atI, ixN]
  by_cases h48 : c0 = 48 ∧ 1 < (nT n).length
  · obtain ⟨rfl, h2⟩ := h48
    rw [len_tl, tl_nT] at h2
    exact (numL_zero hc0 h2).elim
  · unfold s_read_cast
    have l1 : ¬ (nT n).length < 1 := by omega
    have l2 : ¬ 9 < (nT n).length := by omega
    have l3 : (nT n).length ≤ 16777216 := by omega
    have e7 : lenD [.str (nT n)] s = .ok (.int ((nT n).length : Int)) s := if_pos (by rw [sizeLine_e]; omega)
    have l4 : ¬ ((nT n).length : Int) < 1 := by omega
    have l5 : ¬ (9 : Int) < ((nT n).length : Int) := by omega
    have e8 : Cm.sem .eq (.str ⟨#[c0]⟩) (.str "0") s = .ok (.bl (decide (c0 = 48))) s := by
      rw [eq_str, show Str.ofString "0" = ⟨#[48]⟩ from rfl]
      simp
    by_cases h0 : c0 = 48
    · have l6 : ¬ 1 < (nT n).length := fun z => h48 ⟨h0, z⟩
      have l7 : ¬ (1 : Int) < ((nT n).length : Int) := by omega
      simp [e1, e2, e3, e4, hsrc, e5, tyT, tyL, l1, l2, l3, e7, l4, l5, e8, l6, l7]
    · simp [e1, e2, e3, e4, hsrc, e5, tyT, tyL, l1, l2, l3, e7, l4, l5, e8, h0]
theorem cut_last (l : List D) (x : D) : cutD (l ++ [x]) none (some (-1)) = l := by
  unfold cutD
  have e : HT.sIx (l ++ [x]).length (l ++ [x]).length (some (-1)) = l.length := by
    show (if (-1 : Int) < 0 then ((-1 : Int) + ((l ++ [x]).length : Int)).toNat else min (-1 : Int).toNat (l ++ [x]).length) = _
    rw [if_pos (by decide), List.length_append, List.length_singleton]; omega
  rw [show HT.sIx (l ++ [x]).length 0 none = 0 from rfl, e]
  simp
theorem ends_ok {l : List D} {x : D} (hl : l.length ≤ 1000) (s : Sto) : Cm.sem .eq (.lst (l ++ [x])) (.lst []) s = .ok (.bl false) s ∧ idxD (.lst (l ++ [x])) (.int (-1)) s = .ok x s ∧ slD false none (some (-1)) (.lst (l ++ [x])) s = .ok (.lst l) s := by
  refine ⟨?_, ?_, ?_⟩
  · rw [eq_nilA (ds := l ++ [x]) rfl]
    simp
  · simp [ix_last]
  · simp [cut_last]
theorem chart_good (l : List (List Str)) {n : Nat} (hn : n < 10 ^ 9) (h : ∀ r ∈ l, (∀ m ∈ r, m ∈ mkL) ∧ r.length ≤ 63) (hl : l.length ≤ 1000) (s : Sto) :
    s_read_chart [.lst ((l.reverse.map rtx ++ [ctx n]).map D.str)] s = .ok (.tup [.int (n : Int), .lst (l.map fun r => .lst (r.map stO))]) s := by
  have e0 : (l.reverse.map rtx ++ [ctx n]).map D.str = (l.reverse.map fun r => D.str (rtx r)) ++ [.str (ctx n)] := by simp
  have e1 : Cm.sem .eq (.lst ((l.reverse.map fun r => D.str (rtx r)) ++ [.str (ctx n)])) (.lst []) s = .ok (.bl false) s := by
    exact (ends_ok (by simpa using hl) s).1
  have e2 := read_cast_ok hn s
  have e3 : idxD (.lst ((l.reverse.map fun r => D.str (rtx r)) ++ [.str (ctx n)])) (.int (-1)) s = .ok (.str (ctx n)) s := by
    exact (ends_ok (by simpa using hl) s).2.1
  have e4 : slD false none (some (-1)) (.lst ((l.reverse.map fun r => D.str (rtx r)) ++ [.str (ctx n)])) s = .ok (.lst (l.reverse.map fun r => D.str (rtx r))) s := by
    exact (ends_ok (by simpa using hl) s).2.2
  have e5 : ∀ ρ : Ro, ρ.length = 4 → lcE (tgName 3) mYes (mCall s_read_row [] (mCons (mVar 3) mNil)) (fun _ => true) (l.map fun r => D.str (rtx r)) ρ s = .ok (l.map fun r => D.lst (r.map stO)) s := fun ρ hρ => by
    refine lcE_mapA _ _ l rfl fun r hr => ⟨_, rfl, ?_⟩
    have := read_row_ok (h r hr).1 (h r hr).2 s
    simp [hρ, this]
  have e5 := e5 (wipeD [some (.lst ((l.reverse.map fun r => D.str (rtx r)) ++ [.str (ctx n)])), some (.int (n : Int)), some (.lst (l.reverse.map fun r => D.str (rtx r))), none] [3]) rfl
  have hl2 : l.length ≤ 16777216 := by omega
  unfold s_read_chart
  rw [e0]
  rw [List.map_reverse] at *
  simp [e1, e2, e3, e4, mLcE, e5, tyT, tyL, hl2]
theorem chart_cast {l : List D} {x : D} {s : Sto} (hl : l.length ≤ 1000) (h : s_read_cast [x] s = .exc 7 [] s) : s_read_chart [.lst (l ++ [x])] s = .exc 7 [] s := by
  obtain ⟨e1, e2, e3⟩ := ends_ok (x := x) hl s
  unfold s_read_chart
  simp [e1, e2, e3, h, tyT, tyL]
theorem chart_row (pre : List D) (x : D) (l : List (List Str)) {n : Nat} (hn : n < 10 ^ 9) (h : ∀ r ∈ l, (∀ m ∈ r, m ∈ mkL) ∧ r.length ≤ 63) (hl : pre.length + l.length ≤ 900) {s : Sto} (hx : s_read_row [x] s = .exc 7 [] s) :
    s_read_chart [.lst (pre ++ [x] ++ (l.reverse.map fun r => D.str (rtx r)) ++ [.str (ctx n)])] s = .exc 7 [] s := by
  obtain ⟨e1, e2, e3⟩ := ends_ok (l := pre ++ [x] ++ (l.reverse.map fun r => D.str (rtx r))) (x := .str (ctx n)) (by simp; omega) s
  have e4 := read_cast_ok hn s
  have e5 : ∀ ρ : Ro, ρ.length = 4 → lcE (tgName 3) mYes (mCall s_read_row [] (mCons (mVar 3) mNil)) (fun _ => true) ((l.map fun r => D.str (rtx r)) ++ x :: pre.reverse) ρ s = .exc 7 [] s := fun ρ hρ => by
    refine lcE_stop (fun r => D.str (rtx r)) (fun r : List Str => D.lst (r.map stO)) l x _ 7 rfl (fun r hr => ⟨_, rfl, ?_⟩) (ρ2 := ρ.set 3 (some x)) rfl ?_
    · have := read_row_ok (h r hr).1 (h r hr).2 s
      simp [hρ, this]
    · simp [hρ, hx]
  have e6 : (pre ++ [x] ++ (l.reverse.map fun r => D.str (rtx r))).reverse = (l.map fun r => D.str (rtx r)) ++ x :: pre.reverse := by simp
  have e5 := e5 (wipeD [some (.lst (pre ++ [x] ++ (l.reverse.map fun r => D.str (rtx r)) ++ [.str (ctx n)])), some (.int (n : Int)), some (.lst (pre ++ [x] ++ (l.reverse.map fun r => D.str (rtx r)))), none] [3]) rfl
  rw [← e6] at e5
  have hl2 : (pre ++ [x] ++ (l.reverse.map fun r => D.str (rtx r))).length ≤ 16777216 := by simp; omega
  generalize (pre ++ [x] ++ (l.reverse.map fun r => D.str (rtx r))) = L at *
  unfold s_read_chart
  simp [e1, e2, e3, e4, mLcE, e5, tyT, tyL, hl2]
def isX : Rs D → Bool
  | .exc 7 [] [] => true
  | _ => false
theorem isX_ok {r : Rs D} (h : isX r = true) : r = .exc 7 [] [] := by
  unfold isX at h
  split at h
  · rfl
  · cases h
def badR : List D := [.str "", .str " ", .str "--", .str "- -", .str "k -", .str "- k", .str "k  p", .str " k", .str "k ", .str "K", .str "kp", .str "k,p", .str "cast 3", .str "k2", .str "k1r", .str "k5l", .str "c0f1", .str "c1f5", .str "c2r1", .str "px1", .str "px5", .str "hv", .str "f", .non, .int 3, .lst [.str "k"]]
theorem badR_ok : badR.all (fun d => isX (s_read_row [d] [])) = true := by decide +kernel
def badC : List D := [.str "cast", .str "cast ", .str "cast 01", .str "cast 00", .str "cast -1", .str "cast +1", .str "cast 1234567890", .str "cast 1 ", .str "cast  1", .str "Cast 1", .str "cast a", .str "3", .non, .int 3, .str "cast 1_0"]
theorem badC_ok : badC.all (fun d => isX (s_read_cast [d] [])) = true := by decide +kernel
theorem at_mem {l : List D} {i : Int} (h0 : 0 ≤ i) (h1 : i < l.length) : ∃ d ∈ l, atI l i = some d := by
  have h : i.toNat < l.length := by omega
  refine ⟨l[i.toNat], List.getElem_mem h, ?_⟩
  unfold atI ixN
  rw [if_pos h0, if_pos h1]
  simp [h]
theorem no_row_ok (z : Int) : ∃ d ∈ badR, s__law_no_row [.int z] [] = .ok d [] := by
  obtain ⟨d, hd, e⟩ := at_mem (l := badR) (i := z % 26) (by omega) (by show z % 26 < ((26 : Nat) : Int); omega)
  refine ⟨d, hd, ?_⟩
  unfold badR at e
  unfold s__law_no_row
  simp [addD_lst, e]
theorem no_cast_ok (z : Int) : ∃ d ∈ badC, s__law_no_cast [.int z] [] = .ok d [] := by
  obtain ⟨d, hd, e⟩ := at_mem (l := badC) (i := z % 15) (by omega) (by show z % 15 < ((15 : Nat) : Int); omega)
  refine ⟨d, hd, ?_⟩
  unfold badC at e
  unfold s__law_no_cast
  simp [addD_lst, e]
theorem join_len (r : List Str) (k : Nat) (h : ∀ m ∈ r, m.length ≤ k) : (r.map (·.length)).sum ≤ k * r.length := by
  induction r with
  | nil => simp
  | cons m r ih =>
    have := ih fun x hx => h x (List.mem_cons_of_mem _ hx)
    have := h m List.mem_cons_self
    simp [Nat.mul_add]; omega
def due (n : Nat) (R : Rws) : List Str := R.reverse.map rtx ++ [ctx n]
theorem sL_ok (r : List Str) (hl : r.length ≤ 63) (x0 x1 x2 x4 x5 : Option D) (s : Sto) :
    lcM (tgName 5) mYes (mBin idxD (mVar 3) (mBin subD (mBin subD (mCallB lenD (mCons (mVar 3) mNil)) (mC (.int 1))) (mVar 5))) (fun _ => true) ((List.range r.length).map fun (i : Nat) => D.int (i : Int)) [x0, x1, x2, some (.lst (r.map D.str)), x4, x5] s = .ok (r.reverse.map D.str) s := by
  have e : (List.range r.length).map (fun i => D.str (r.reverse.getD i "")) = r.reverse.map D.str := by
    refine List.ext_getElem (by simp) fun i h1 h2 => ?_
    have : i < r.length := by simpa using h1
    simp [List.getD, this]
  rw [← e]
  refine lcM_mapA (fun i : Nat => D.int (i : Int)) _ _ fun i hi => ⟨_, rfl, ?_⟩
  have hi' : i < r.length := by simpa using hi
  have h1 : atI (r.map D.str) ((r.length : Int) - 1 - i) = some (.str (r.reverse.getD i "")) := by
    unfold atI ixN
    rw [if_pos (by omega), if_pos (by simp; omega)]
    have : ((r.length : Int) - 1 - i).toNat = r.length - 1 - i := by omega
    rw [this]
    have h2 : r.length - 1 - i < r.length := by omega
    simp [List.getD, hi', h2]
  have hl2 : r.length ≤ 16777216 := by omega
  simp [hl2, h1]
theorem texts_ok {n : Nat} (hn : n < 10 ^ 9) {R : Rws} (hR : GoodR 63 R) (s : Sto) : s__law_texts [.int (n : Int), enR R] s = .ok (.lst ((due n R).map D.str)) s := by
  obtain ⟨ρ2, e, x, y, z, rfl⟩ := forM_fold (mt := tgName 3) (body := m__law_texts_f0) (s := s) (fun r : List Str => D.lst (r.map D.str)) (fun dn ρ => ∃ x y z, ρ = [some (.int (n : Int)), some (enR R), some (.lst ((dn.reverse.map rtx ++ [ctx n]).map D.str)), x, y, z]) R [some (.int (n : Int)), some (enR R), some (.lst [.str (ctx n)]), none, none, none] ⟨_, _, _, rfl⟩ (by
    rintro dn r rest ρ hr ⟨x, y, z, rfl⟩
    refine ⟨_, [some (.int (n : Int)), some (enR R), some (.lst (((dn ++ [r]).reverse.map rtx ++ [ctx n]).map D.str)), some (.lst (r.map D.str)), some (.str (rtx r)), z], rfl, .inl ?_, _, _, _, rfl⟩
    have hk := hR.ok r (by rw [hr]; simp)
    have hl := hR.ln r (by rw [hr]; simp)
    have hdl : dn.length ≤ 63 := by have := hR.len; rw [hr] at this; simp at this; omega
    have e1 := addD_lst (a := [D.str (rtx r)]) (b := (dn.reverse.map rtx ++ [ctx n]).map D.str) (s := s) (by simp; omega)
    have e2 : ((dn ++ [r]).reverse.map rtx ++ [ctx n]).map D.str = [D.str (rtx r)] ++ (dn.reverse.map rtx ++ [ctx n]).map D.str := by simp
    rw [e2]
    generalize (dn.reverse.map rtx ++ [ctx n]).map D.str = B at *
    by_cases h0 : r = []
    · subst h0
      have en : Cm.sem .ne (.lst []) (.lst []) s = .ok (.bl false) s := ne_self rfl
      have e3 : rtx [] = Str.ofString "-" := rfl
      rw [e3] at e1 ⊢
      simp [m__law_texts_f0, en, e1]
    · have en : Cm.sem .ne (.lst (r.map D.str)) (.lst []) s = .ok (.bl true) s := by
        rw [ne_nilA (ds := r.map D.str) rfl]
        simp [h0]
      have e4 := sL_ok r hl (some (.int (n : Int))) (some (enR R)) (some (.lst B)) (some (.str "-")) none s
      have e5 : joinD (.str " ") [.lst (r.reverse.map D.str)] s = .ok (.str (rtx r)) s := by
        have hb : (r.reverse.map (·.length)).sum + r.reverse.length * (Str.ofString " ").length ≤ 16777216 := by
          have := join_len r.reverse 4 fun m hm => (mk_len (hk m (by simpa using hm))).2
          rw [show (Str.ofString " ").length = 1 from rfl]
          rw [List.length_reverse] at this ⊢
          omega
        rw [join_e hb, join_eq]
        unfold rtx
        rw [if_neg h0]
      have hl2 : r.length ≤ 16777216 := by omega
      rw [List.map_reverse] at e4 e5
      have hl3 : r.length ≤ 1000000000 := by omega
      have e6 : (rngS 0 1 r.length).items = (List.range r.length).map fun (i : Nat) => D.int (i : Int) := by simp [rngS]
      simp at e1
      simp [m__law_texts_f0, en, e1, wipeD, e6, e4, e5, hl2, hl3])
  unfold s__law_texts
  have k1 : n.log2 < 1920 := by
    by_cases h : n = 0
    · rw [h]; decide
    · exact (Nat.log2_lt h).mpr (Nat.lt_of_lt_of_le (show n < 2 ^ 30 by omega) (Nat.pow_le_pow_right (by decide) (by decide)))
  have k3 : Str.ofString (n : Int).repr = nT n := rfl
  have k2 : (Str.ofString "cast ").length + (nT n).length ≤ 16777216 := by
    have := nT_len hn
    rw [show (Str.ofString "cast ").length = 5 from rfl]
    omega
  have k4 : Str.ofString "cast " ++ nT n = ctx n := rfl
  have k5 : srcOf (enR R) s = some ⟨R.map fun r => D.lst (r.map D.str), fun _ => true⟩ := by simp [enR]
  simp only [List.map_append, List.map_cons, List.map_nil] at e
  simp [k1, k3, k2, k4, k5, e, due]
def isS (d : D) : Bool := match d with
  | .obj c _ => a_Stitch c == some true
  | _ => false
theorem isS_all : mkT.all (fun p => isS p.2) = true := by decide +kernel
theorem isS_ok {m : Str} (h : m ∈ mkL) (s : Sto) : isiD b_ty_Stitch a_Stitch (stO m) s = .ok (.bl true) s := by
  have := List.all_eq_true.mp isS_all _ (st_mem h)
  dsimp only at this
  unfold isS at this
  split at this
  · rename_i c ds e
    rw [e]
    have e2 : a_Stitch c = some true := by simpa using this
    have e3 : tyNm (.obj c ds) s = none := rfl
    have e4 : clsD (.obj c ds) s = some c := rfl
    unfold isiD
    rw [e3, e4]
    simp [e2]
  · cases this
theorem found_chart {n : Nat} (hn : n < 10 ^ 9) {R : Rws} (hR : GoodR 63 R) (s : Sto) : s_read_chart [.lst ((due n R).map D.str)] s = .ok (.tup [.int (n : Int), .lst (R.map fun r => .lst (r.map stO))]) s :=
  chart_good R hn (fun r hr => ⟨hR.ok r hr, hR.ln r hr⟩) (by have := hR.len; omega) s
theorem law_read_ok {n : Nat} (hn : n < 10 ^ 9) {R : Rws} (hR : GoodR 63 R) (s : Sto) : s__law_read [.lst ((due n R).map D.str), .int (n : Int), enR R] s = .ok (.bl true) s := by
  have e1 := found_chart hn hR s
  have hlen := hR.len
  obtain ⟨ρ2, e, x, y, z, rfl⟩ := forM_fold (mt := tgTup (tgCons (tgName 4) (tgCons (tgName 5) tgNil))) (body := m__law_read_f1) (s := s) (fun r : List Str => D.tup [.lst (r.map stO), .lst (r.map D.str)])
    (fun dn ρ => ∃ x y z, ρ = [some (.lst ((due n R).map D.str)), some (.int (n : Int)), some (enR R), some (.tup [.int (n : Int), .lst (R.map fun r => .lst (r.map stO))]), x, y, z]) R
    [some (.lst ((due n R).map D.str)), some (.int (n : Int)), some (enR R), some (.tup [.int (n : Int), .lst (R.map fun r => .lst (r.map stO))]), none, none, none] ⟨_, _, _, rfl⟩ (by
    rintro dn r rest ρ h0 ⟨x, y, z, rfl⟩
    have hk := hR.ok r (by rw [h0]; simp)
    have hl := hR.ln r (by rw [h0]; simp)
    obtain ⟨ρ3, e3, z3, rfl⟩ := forM_fold (mt := tgName 6) (body := m__law_read_f0) (s := s) stO
      (fun dn ρ => ∃ z, ρ = [some (.lst ((due n R).map D.str)), some (.int (n : Int)), some (enR R), some (.tup [.int (n : Int), .lst (R.map fun r => .lst (r.map stO))]), some (.lst (r.map stO)), some (.lst (r.map D.str)), z]) r
      [some (.lst ((due n R).map D.str)), some (.int (n : Int)), some (enR R), some (.tup [.int (n : Int), .lst (R.map fun r => .lst (r.map stO))]), some (.lst (r.map stO)), some (.lst (r.map D.str)), z] ⟨_, rfl⟩ (by
      rintro dn2 m rest2 ρ h2 ⟨z, rfl⟩
      have hm := isS_ok (hk m (by rw [h2]; simp)) s
      refine ⟨_, [some (.lst ((due n R).map D.str)), some (.int (n : Int)), some (enR R), some (.tup [.int (n : Int), .lst (R.map fun r => .lst (r.map stO))]), some (.lst (r.map stO)), some (.lst (r.map D.str)), some (stO m)], rfl, .inl ?_, _, rfl⟩
      simp [m__law_read_f0, hm])
    refine ⟨_, _, rfl, .inl ?_, some (.lst (r.map stO)), some (.lst (r.map D.str)), z3, rfl⟩
    have em : ∀ ρ1 : Ro, ρ1.length = 7 → ∀ s : Sto, lcM (tgName 6) mYes (mMeth d_mark [] (mVar 6) mNil) (fun _ => true) (r.map stO) ρ1 s = .ok (r.map D.str) s := fun ρ1 h1 s => by
      refine lcM_mapA stO D.str r fun m hm => ⟨_, rfl, ?_⟩
      have hm' := hk m hm
      simp [h1, mark_ok hm']
    have hne : ∀ s : Sto, Cm.sem .ne (.lst (r.map D.str)) (.lst (r.map D.str)) s = .ok (.bl false) s := fun s => ne_self (by simp)
    have hlr : r.length ≤ 16777216 := by omega
    simp [m__law_read_f1, wipeD, em, hne, hlr, e3, tyT, tyL])
  have hzip : zipD (.lst (R.map fun r => D.lst (r.map stO))) (enR R) s = some ⟨R.map fun r => D.tup [.lst (r.map stO), .lst (r.map D.str)], fun _ => true⟩ := by
    unfold enR; rw [zipD_lst, zipItems_map]
  have hlenR : lenD [enR R] s = .ok (.int R.length) s := by simp [enR]
  have hl16 : R.length ≤ 16777216 := by omega
  unfold s__law_read
  have a0 : ∀ a b : D, atI [a, b] 0 = some a := fun _ _ => rfl
  have a1 : ∀ a b : D, atI [a, b] 1 = some b := fun _ _ => rfl
  simp [e1, e, hzip, hlenR, tyT, tyL, hl16, a0, a1]
abbrev S1 : Sto := [.dK []]
def okB (r : Rs D) : Bool := match r with
  | .ok (.bl true) [.dK []] => true
  | _ => false
theorem okB_ok {r : Rs D} (h : okB r = true) : r = .ok (.bl true) S1 := by
  unfold okB at h
  split at h
  · rfl
  · cases h
theorem told7 {s : Sto} (hs : s = [] ∨ s = S1) : s__law_class_told [.exv 7 []] s = .ok (.bl true) s := by
  rcases hs with rfl | rfl
  · exact okIs_ok (by decide +kernel)
  · exact okB_ok (by decide +kernel)
theorem refused_ok {x : D} {s : Sto} (hs : s = [] ∨ s = S1) (h : s_read_chart [x] s = .exc 7 [] s) : s__law_refused [x] s = .ok (.bl true) s := by
  have t := told7 hs
  unfold s__law_refused
  simp [sTry, sExpr, mCallE, mCallQ, h, em_StitchError, t]
theorem no_chart_ok (n : Nat) (R : Rws) (z : Int) (hl : R.length ≤ 63) : ∃ x, s__law_no_chart [.lst ((due n R).map D.str), .int z] [] = .ok x S1 ∧ s_read_chart [x] S1 = .exc 7 [] S1 := by
  have ht : tupleD [.lst ((due n R).map D.str)] ([] : Sto) = .ok (.tup ((due n R).map D.str)) [] := rfl
  have hz : z % 6 = 0 ∨ z % 6 = 1 ∨ z % 6 = 2 ∨ z % 6 = 3 ∨ z % 6 = 4 ∨ z % 6 = 5 := by omega
  have e : ∀ a b c d e f : D, atI [a, b, c, d, e, f] 0 = some a ∧ atI [a, b, c, d, e, f] 1 = some b ∧ atI [a, b, c, d, e, f] 2 = some c ∧ atI [a, b, c, d, e, f] 3 = some d ∧ atI [a, b, c, d, e, f] 4 = some e ∧ atI [a, b, c, d, e, f] 5 = some f := fun _ _ _ _ _ _ => ⟨rfl, rfl, rfl, rfl, rfl, rfl⟩
  unfold s__law_no_chart
  rcases hz with h | h | h | h | h | h
  · refine ⟨.non, by simp [mDNew, ht, h, e], ?_⟩
    unfold s_read_chart
    simp [tyT, tyL]
  · refine ⟨.str "cast 3", by simp [mDNew, ht, h, e], ?_⟩
    unfold s_read_chart
    simp [tyT, tyL]
  · refine ⟨.tup ((due n R).map D.str), by simp [mDNew, ht, h, e], ?_⟩
    unfold s_read_chart
    simp [tyT, tyL]
  · refine ⟨.ref 0, by simp [mDNew, ht, h, e], ?_⟩
    unfold s_read_chart
    simp [tyT, tyL, isiD, tyNm]
  · refine ⟨.lst [], by simp [mDNew, ht, h, e], ?_⟩
    unfold s_read_chart
    simp [tyT, tyL, eq_nilA (x := .lst []) (ds := []) rfl]
  · refine ⟨.int 7, by simp [mDNew, ht, h, e], ?_⟩
    unfold s_read_chart
    simp [tyT, tyL]
def noCa (m : Str) : Bool := match tl m with
  | 99 :: b :: _ => b != 97
  | [99] => false
  | [] => false
  | _ => true
theorem noCa_all : mkL.all noCa = true := by decide +kernel
theorem no_start {x : Str} {l : List Nat} {m : Str} (h : noCa m = true) (e : tl x = tl m ++ l) : Txt.startswith x (Str.ofString "cast ") = false := by
  rw [starts_eq, show tl (Str.ofString "cast ") = [99, 97, 115, 116, 32] from rfl, show (Str.ofString "cast ").length = 5 from rfl, e]
  unfold noCa at h
  cases hq : ((tl m ++ l).take 5 == [99, 97, 115, 116, 32]) with
  | false => simp
  | true =>
    have hq := eq_of_beq hq
    exfalso
    split at h
    · rename_i b t he
      rw [he] at hq
      simp at hq h
      exact h hq.1
    · cases h
    · cases h
    · rename_i h1 h2 h3
      cases he : tl m with
      | nil => exact h3 he
      | cons a t =>
        rw [he] at hq
        cases t with
        | nil =>
          simp at hq
          exact h2 (by rw [he, hq.1])
        | cons b t =>
          simp at hq
          exact h1 b t (by rw [he, hq.1])
theorem rtx_no {r : List Str} (h : ∀ m ∈ r, m ∈ mkL) : Txt.startswith (rtx r) (Str.ofString "cast ") = false := by
  by_cases hr : r = []
  · subst hr
    decide +kernel
  · have e : rtx r = Str.join " " r.reverse := by unfold rtx; rw [if_neg hr]
    cases hq : r.reverse with
    | nil => exact absurd (List.reverse_eq_nil_iff.mp hq) hr
    | cons m t =>
      have hm : noCa m = true := by
        have hin : m ∈ r.reverse := by rw [hq]; simp
        exact List.all_eq_true.mp noCa_all m (h m (by simpa using hin))
      rw [e, hq]
      cases t with
      | nil => exact no_start (l := []) hm (by simp [Str.join])
      | cons a t =>
        refine no_start (l := tl (Str.ofString " ") ++ tl (Str.join (Str.ofString " ") (a :: t))) hm ?_
        rw [join_cons _ _ (by simp), tl_append, tl_append, List.append_assoc]
theorem cast_rtx {r : List Str} (h : ∀ m ∈ r, m ∈ mkL) (s : Sto) : s_read_cast [.str (rtx r)] s = .exc 7 [] s := by
  have e1 : startsD (.str (rtx r)) [.str "cast "] s = .ok (.bl false) s := by
    show Rs.ok (D.bl (Txt.startswith _ _)) s = _
    rw [rtx_no h]
  unfold s_read_cast
  simp [e1, tyT, tyL]
theorem cut_take (l : List D) (k : Nat) (h : k ≤ l.length) : cutD l none (some (k : Int)) = l.take k := by
  unfold cutD
  have e : HT.sIx l.length l.length (some (k : Int)) = k := by
    show (if (k : Int) < 0 then ((k : Int) + (l.length : Int)).toNat else min (k : Int).toNat l.length) = _
    rw [if_neg (by omega)]; omega
  rw [show HT.sIx l.length 0 none = 0 from rfl, e]
  simp
theorem cut_drop (l : List D) (k : Nat) (h : k ≤ l.length) : cutD l (some (k : Int)) none = l.drop k := by
  unfold cutD
  have e : HT.sIx l.length 0 (some (k : Int)) = k := by
    show (if (k : Int) < 0 then ((k : Int) + (l.length : Int)).toNat else min (k : Int).toNat l.length) = _
    rw [if_neg (by omega)]; omega
  rw [show HT.sIx l.length l.length none = l.length from rfl, e]
  exact List.take_of_length_le (by simp)
theorem due_D (n : Nat) (R : Rws) : (due n R).map D.str = (R.reverse.map fun r => D.str (rtx r)) ++ [.str (ctx n)] := by simp [due]
theorem spoiled_bad {n : Nat} (hn : n < 10 ^ 9) {R : Rws} (hR : GoodR 63 R) (w z : Int) (hw : 0 ≤ w) :
    ∃ x s, (s = [] ∨ s = S1) ∧ s__law_spoiled [.lst ((due n R).map D.str), .int w, .int z] [] = .ok x s ∧ s_read_chart [x] s = .exc 7 [] s := by
  have hlen := hR.len
  obtain ⟨b, hb, eb⟩ := no_row_ok z
  obtain ⟨cc, hc, ec⟩ := no_cast_ok z
  have xb := isX_ok (List.all_eq_true.mp badR_ok b hb)
  have xc := isX_ok (List.all_eq_true.mp badC_ok cc hc)
  obtain ⟨x1, f1, f2⟩ := no_chart_ok n R z hlen
  have eA : slD false none (some (-1)) (.lst ((due n R).map D.str)) ([] : Sto) = .ok (.lst (R.reverse.map fun r => D.str (rtx r))) [] := by
    rw [due_D]
    exact (ends_ok (by simp; omega) []).2.2
  have eLen : lenD [.lst ((due n R).map D.str)] ([] : Sto) = .ok (.int ((R.length : Int) + 1)) [] := by
    simp [due]
  have hT : ∀ k : Nat, k < R.length → slD false none (some (k : Int)) (.lst ((due n R).map D.str)) ([] : Sto) = .ok (.lst ((R.reverse.map fun r => D.str (rtx r)).take k)) [] ∧
      slD false (some ((k : Int) + 1)) none (.lst ((due n R).map D.str)) ([] : Sto) = .ok (.lst ((R.reverse.map fun r => D.str (rtx r)).drop (k + 1) ++ [.str (ctx n)])) [] := fun k hk => by
    have h1 : k ≤ ((R.reverse.map fun r => D.str (rtx r)) ++ [D.str (ctx n)]).length := by simp; omega
    have h2 : k + 1 ≤ ((R.reverse.map fun r => D.str (rtx r)) ++ [D.str (ctx n)]).length := by simp; omega
    have t1 := cut_take _ _ h1
    have t2 := cut_drop _ _ h2
    rw [List.take_append_of_le_length (by simp; omega)] at t1
    rw [List.drop_append_of_le_length (by simp; omega)] at t2
    rw [due_D]
    refine ⟨?_, ?_⟩
    · rw [sl_lst, t1]
      rfl
    · rw [sl_lst, show ((k : Int) + 1) = ((k + 1 : Nat) : Int) from by omega, t2]
      rfl
  generalize (due n R).map D.str = T at *
  by_cases h0 : w % 6 = 0
  · refine ⟨.lst (R.reverse.map fun r => D.str (rtx r)), [], .inl rfl, ?_, ?_⟩
    · generalize (R.reverse.map fun r => D.str (rtx r)) = A at *
      unfold s__law_spoiled
      simp only [sl_lst] at eA
      simp [h0, eA]
    · cases R with
      | nil => exact isX_ok (by decide +kernel)
      | cons r R =>
        rw [List.reverse_cons, List.map_append]
        exact chart_cast (by simp at hlen ⊢; omega) (cast_rtx (hR.ok r (by simp)) [])
  by_cases h1 : w % 6 = 1
  · refine ⟨x1, S1, .inr rfl, ?_, f2⟩
    unfold s__law_spoiled
    simp [h0, h1, f1]
  by_cases h2 : w % 6 < 4 ∧ R ≠ []
  · obtain ⟨h2, h3⟩ := h2
    have hp : 0 < R.length := List.length_pos_iff.mpr h3
    obtain ⟨k, hk⟩ : ∃ k : Nat, (k : Int) = w / 6 % (R.length : Int) := ⟨(w / 6 % (R.length : Int)).toNat, Int.toNat_of_nonneg (Int.emod_nonneg _ (by omega))⟩
    have hk2 : k < R.length := by
      have := Int.emod_lt_of_pos (w / 6) (show (0 : Int) < R.length by omega)
      omega
    obtain ⟨t1, t2⟩ := hT k hk2
    have hl : ((R.reverse.map fun r => D.str (rtx r)).drop (k + 1)) = ((R.take (R.length - (k + 1))).reverse.map fun r => D.str (rtx r)) := by
      rw [← List.map_drop, List.drop_reverse]
    rw [hl] at t2
    have hz := chart_row ((R.reverse.map fun r => D.str (rtx r)).take k) b (R.take (R.length - (k + 1))) hn (fun r hr => ⟨hR.ok r (List.mem_of_mem_take hr), hR.ln r (List.mem_of_mem_take hr)⟩) (by simp; omega) xb
    rw [List.append_assoc] at hz
    refine ⟨_, [], .inl rfl, ?_, hz⟩
    have lA : ((R.reverse.map fun r => D.str (rtx r)).take k).length ≤ 63 := by simp; omega
    have lB : ((R.take (R.length - (k + 1))).reverse.map fun r => D.str (rtx r)).length ≤ 63 := by simp; omega
    generalize ((R.reverse.map fun r => D.str (rtx r)).take k) = A at *
    generalize ((R.take (R.length - (k + 1))).reverse.map fun r => D.str (rtx r)) = B at *
    have a1 := addD_lst (a := A) (b := [b]) (s := ([] : Sto)) (by simp; omega)
    have a2 := addD_lst (a := A ++ [b]) (b := B ++ [.str (ctx n)]) (s := ([] : Sto)) (by simp; omega)
    simp only [sl_lst] at t1 t2
    have h5 : (1 : Int) < (R.length : Int) + 1 := by omega
    unfold s__law_spoiled
    have hR0 : (R.length : Int) ≠ 0 := by omega
    have em : modD (.int (w / 6)) (.int (R.length : Int)) ([] : Sto) = .ok (.int (k : Int)) [] := by
      rw [hk]
      exact mod_ok (by omega)
    have ga : ∀ x y : Int, addD false (.int x) (.int y) ([] : Sto) = .ok (.int (x + y)) [] := fun _ _ => rfl
    simp at a2
    simp [h0, h1, h2, eLen, h5, hp, em, t1, t2, a1, a2, eb]
  · refine ⟨.lst ((R.reverse.map fun r => D.str (rtx r)) ++ [cc]), [], .inl rfl, ?_, chart_cast (by simp; omega) xc⟩
    have lA : (R.reverse.map fun r => D.str (rtx r)).length ≤ 63 := by simp; omega
    generalize (R.reverse.map fun r => D.str (rtx r)) = A at *
    have a1 := addD_lst (a := A) (b := [cc]) (s := ([] : Sto)) (by simp; omega)
    simp only [sl_lst] at eA
    unfold s__law_spoiled
    by_cases h4 : w % 6 < 4
    · have hr : R = [] := by
        by_cases q : R = []
        · exact q
        · exact absurd ⟨h4, q⟩ h2
      subst hr
      simp [h0, h1, h4, eLen, eA, a1, ec]
    · simp [h0, h1, h4, eLen, eA, a1, ec]
theorem cell_ok (ns : List Int) (k : Nat) (s : Sto) : ∃ c, s__law_cell_at [.frz (ns.map D.int), .int (k : Int)] s = .ok (.int c) s := by
  unfold s__law_cell_at
  by_cases h : k < ns.length
  · refine ⟨ns[k], ?_⟩
    have e : atI (ns.map D.int) (k : Int) = some (.int ns[k]) := by
      unfold atI ixN
      rw [if_pos (by omega), if_pos (by simpa using h)]
      simp [h]
    simp [h, e]
  · exact ⟨0, by simp [h]⟩
theorem plain (ns : List Int) (h1 : ns.length ≤ 63) (h2 : ∀ z ∈ ns, Builtin.Int.intBits z ≤ 1048576) : ∃ s, s_law [.frz (ns.map D.int)] [] = .ok (.bl true) s := by
  obtain ⟨c0, e0⟩ : ∃ c, s__law_cell_at [.frz (ns.map D.int), .int 0] [] = .ok (.int c) [] := cell_ok ns 0 []
  obtain ⟨c1, e1⟩ : ∃ c, s__law_cell_at [.frz (ns.map D.int), .int 1] [] = .ok (.int c) [] := cell_ok ns 1 []
  obtain ⟨c2, e2⟩ : ∃ c, s__law_cell_at [.frz (ns.map D.int), .int 2] [] = .ok (.int c) [] := cell_ok ns 2 []
  obtain ⟨R, hR, hr⟩ := rows_ok ns h1
  obtain ⟨n, hn, hc⟩ : ∃ n : Nat, n < 10 ^ 9 ∧ (n : Int) = (if c1 % 3 = 1 then c0 % 1000000000 % 12 else c0 % 1000000000) := by
    have b0 : 0 ≤ c0 % 1000000000 := Int.emod_nonneg _ (by decide)
    have b1 : c0 % 1000000000 < 1000000000 := Int.emod_lt_of_pos _ (by decide)
    split
    · exact ⟨(c0 % 1000000000 % 12).toNat, by omega, by omega⟩
    · exact ⟨(c0 % 1000000000).toNat, by omega, by omega⟩
  have ht := texts_ok hn hR []
  have hw : 0 ≤ c1 / 3 % 1000000000 := Int.emod_nonneg _ (by decide)
  obtain ⟨x, s, hs, p1, p2⟩ := spoiled_bad hn hR (c1 / 3 % 1000000000) (c2 % 1000000000) hw
  have p3 := refused_ok hs p2
  have r1 := law_read_ok hn hR []
  have r2 := law_read_ok hn hR s
  have heq : Cm.sem .eq (.lst ((due n R).map D.str)) (.lst ((due n R).map D.str)) s = .ok (.bl true) s := by
    exact eq_self (by simp)
  have hlist : listD false [.lst ((due n R).map D.str)] ([] : Sto) = .ok (.lst ((due n R).map D.str)) [] := rfl
  refine ⟨s, ?_⟩
  unfold s_law
  generalize (due n R).map D.str = T at *
  by_cases h3 : c1 % 3 = 1
  · rw [if_pos h3] at hc
    simp [e0, e1, e2, h3, hr, ← hc, ht, hlist, r1, p1, p3, r2, heq]
  · rw [if_neg h3] at hc
    simp [e0, e1, e2, h3, hr, ← hc, ht, hlist, r1, p1, p3, r2, heq]
def gg (K : PySem.W.Frag) : G := ⟨K, fun q => He.ga K (clsN.getD q ""), fun q => cfT.getD q [], []⟩
theorem facts {P : Program} {w : World} {K : PySem.W.Frag} {h : Heap} {mg : Str → Option Value} {f : Addr} (X : K.In h) (G : h.Ns mainGlobals mg) (hfa : mg ("law" : Str) = some (.ref f)) (c : He.SaysD fa fn K) (cq : (fq.all fun f => f.ok K) = true) :
    ∃ (fd : FuncData) (g : Mx.G), g.K = K ∧ (∀ (s : Shared) (v : Value), BindsTo s fd ⟨[v], []⟩ [("_law_script", v)]) ∧ ∀ base : Heap, K.In base → base.Ns mainGlobals mg → FnOk P w K mg base (L2.CX P w) 16 f fd ["_law_script"] (spOf g 1 s_law) := by
  obtain ⟨g, hg⟩ : ∃ g : Mx.G, g = gg K := ⟨_, rfl⟩
  obtain ⟨fd_Stitch_mark, F_Stitch_mark⟩ := c.def_ 0 (d := d0) rfl
  obtain ⟨fd_letter_of, F_letter_of⟩ := c.def_ 1 (d := d1) rfl
  obtain ⟨fd_Plain_mark, F_Plain_mark⟩ := c.def_ 2 (d := d2) rfl
  obtain ⟨fd_Slip_mark, F_Slip_mark⟩ := c.def_ 3 (d := d3) rfl
  obtain ⟨fd_Over_mark, F_Over_mark⟩ := c.def_ 4 (d := d4) rfl
  obtain ⟨fd_Lean_mark, F_Lean_mark⟩ := c.def_ 5 (d := d5) rfl
  obtain ⟨fd_Grow_mark, F_Grow_mark⟩ := c.def_ 6 (d := d6) rfl
  obtain ⟨fd_Cross_mark, F_Cross_mark⟩ := c.def_ 7 (d := d7) rfl
  obtain ⟨fd_Off_mark, F_Off_mark⟩ := c.def_ 8 (d := d8) rfl
  obtain ⟨fd_Keep_mark, F_Keep_mark⟩ := c.def_ 9 (d := d9) rfl
  obtain ⟨fd_Fetch_mark, F_Fetch_mark⟩ := c.def_ 10 (d := d10) rfl
  obtain ⟨fd_Fetch_init, F_Fetch_init⟩ := c.def_ 11 (d := d11) rfl
  obtain ⟨fd_Keep_init, F_Keep_init⟩ := c.def_ 12 (d := d12) rfl
  obtain ⟨fd_Plain_init, F_Plain_init⟩ := c.def_ 13 (d := d13) rfl
  obtain ⟨fd_short_one, F_short_one⟩ := c.def_ 14 (d := d14) rfl
  obtain ⟨fd_Cross_init, F_Cross_init⟩ := c.def_ 15 (d := d15) rfl
  obtain ⟨fd_Grow_init, F_Grow_init⟩ := c.def_ 16 (d := d16) rfl
  obtain ⟨fd_Lean_init, F_Lean_init⟩ := c.def_ 17 (d := d17) rfl
  obtain ⟨fd_long_one, F_long_one⟩ := c.def_ 18 (d := d18) rfl
  obtain ⟨fd_stitch, F_stitch⟩ := c.def_ 19 (d := d19) rfl
  obtain ⟨fd_read_mark, F_read_mark⟩ := c.def_ 20 (d := d20) rfl
  obtain ⟨fd_read_row, F_read_row⟩ := c.def_ 21 (d := d21) rfl
  obtain ⟨fd_read_cast, F_read_cast⟩ := c.def_ 22 (d := d22) rfl
  obtain ⟨fd_read_chart, F_read_chart⟩ := c.def_ 23 (d := d23) rfl
  obtain ⟨fd__law_read, F__law_read⟩ := c.def_ 24 (d := d24) rfl
  obtain ⟨fd__law_class_told, F__law_class_told⟩ := c.def_ 25 (d := d25) rfl
  obtain ⟨fd__law_refused, F__law_refused⟩ := c.def_ 26 (d := d26) rfl
  obtain ⟨fd__law_no_cast, F__law_no_cast⟩ := c.def_ 27 (d := d27) rfl
  obtain ⟨fd__law_no_row, F__law_no_row⟩ := c.def_ 28 (d := d28) rfl
  obtain ⟨fd__law_no_chart, F__law_no_chart⟩ := c.def_ 29 (d := d29) rfl
  obtain ⟨fd__law_spoiled, F__law_spoiled⟩ := c.def_ 30 (d := d30) rfl
  obtain ⟨fd__law_cell_at, F__law_cell_at⟩ := c.def_ 31 (d := d31) rfl
  obtain ⟨fd__law_texts, F__law_texts⟩ := c.def_ 32 (d := d32) rfl
  obtain ⟨fd__law_mark, F__law_mark⟩ := c.def_ 33 (d := d33) rfl
  obtain ⟨fd__law_rows, F__law_rows⟩ := c.def_ 34 (d := d34) rfl
  obtain ⟨fd_law, F_law⟩ := c.def_ 35 (d := d35) rfl
  have e := hfa.symm.trans (He.glo_ok X G (c.fact 90 rfl))
  cases e
  have bl := FunD.bindsA (ps := ["_law_script"]) F_law fun _ _ _ _ _ _ us hl => match us, hl with | [_], _ => rfl
  refine ⟨fd_law, gg K, rfl, fun s v => bl s [v] rfl, fun base _ _ => ?_⟩
  clear hg g
  let g : Mx.G := gg K
  have hK : ∀ F : List Addr, (g.wF F).K = K := fun _ => rfl
  have C_Stitch : ClsOk g 12 := ⟨He.cls_ok (x := "Stitch") (c.fact 0 rfl), List.forall_mem_nil _, by show List.Nodup ([] : List Str); decide +kernel, by show List.length ([] : List Str) < 1000; decide⟩
  have C_Plain : ClsOk g 13 := ⟨He.cls_ok (x := "Plain") (c.fact 2 rfl), List.forall_mem_cons.mpr ⟨He.noat_ok (c.fact 1 rfl), List.forall_mem_nil _⟩, by show List.Nodup (["side"] : List Str); decide +kernel, by show List.length (["side"] : List Str) < 1000; decide⟩
  have C_Slip : ClsOk g 14 := ⟨He.cls_ok (x := "Slip") (c.fact 3 rfl), List.forall_mem_nil _, by show List.Nodup ([] : List Str); decide +kernel, by show List.length ([] : List Str) < 1000; decide⟩
  have C_Over : ClsOk g 15 := ⟨He.cls_ok (x := "Over") (c.fact 4 rfl), List.forall_mem_nil _, by show List.Nodup ([] : List Str); decide +kernel, by show List.length ([] : List Str) < 1000; decide⟩
  have C_Lean : ClsOk g 16 := ⟨He.cls_ok (x := "Lean") (c.fact 8 rfl), List.forall_mem_cons.mpr ⟨He.noat_ok (c.fact 7 rfl), List.forall_mem_cons.mpr ⟨He.noat_ok (c.fact 6 rfl), List.forall_mem_cons.mpr ⟨He.noat_ok (c.fact 5 rfl), List.forall_mem_nil _⟩⟩⟩, by show List.Nodup (["many", "way", "side"] : List Str); decide +kernel, by show List.length (["many", "way", "side"] : List Str) < 1000; decide⟩
  have C_Grow : ClsOk g 17 := ⟨He.cls_ok (x := "Grow") (c.fact 11 rfl), List.forall_mem_cons.mpr ⟨He.noat_ok (c.fact 10 rfl), List.forall_mem_cons.mpr ⟨He.noat_ok (c.fact 9 rfl), List.forall_mem_nil _⟩⟩, by show List.Nodup (["many", "side"] : List Str); decide +kernel, by show List.length (["many", "side"] : List Str) < 1000; decide⟩
  have C_Cross : ClsOk g 18 := ⟨He.cls_ok (x := "Cross") (c.fact 16 rfl), List.forall_mem_cons.mpr ⟨He.noat_ok (c.fact 15 rfl), List.forall_mem_cons.mpr ⟨He.noat_ok (c.fact 14 rfl), List.forall_mem_cons.mpr ⟨He.noat_ok (c.fact 13 rfl), List.forall_mem_cons.mpr ⟨He.noat_ok (c.fact 12 rfl), List.forall_mem_nil _⟩⟩⟩⟩, by show List.Nodup (["first", "second", "way", "side"] : List Str); decide +kernel, by show List.length (["first", "second", "way", "side"] : List Str) < 1000; decide⟩
  have C_Off : ClsOk g 19 := ⟨He.cls_ok (x := "Off") (c.fact 17 rfl), List.forall_mem_nil _, by show List.Nodup ([] : List Str); decide +kernel, by show List.length ([] : List Str) < 1000; decide⟩
  have C_Keep : ClsOk g 20 := ⟨He.cls_ok (x := "Keep") (c.fact 19 rfl), List.forall_mem_cons.mpr ⟨He.noat_ok (c.fact 18 rfl), List.forall_mem_nil _⟩, by show List.Nodup (["keeper"] : List Str); decide +kernel, by show List.length (["keeper"] : List Str) < 1000; decide⟩
  have C_Fetch : ClsOk g 21 := ⟨He.cls_ok (x := "Fetch") (c.fact 21 rfl), List.forall_mem_cons.mpr ⟨He.noat_ok (c.fact 20 rfl), List.forall_mem_nil _⟩, by show List.Nodup (["keeper"] : List Str); decide +kernel, by show List.length (["keeper"] : List Str) < 1000; decide⟩
  have O_Stitch_mark : FnOk P w K mg base (L2.CX P w) 2 (He.fAd K d0.at_) fd_Stitch_mark ["self"] (spOf g 1 s_Stitch_mark) := fn_pg (fn_defD (W := ⟨P, w, g, mg, base, 0, false⟩) (st := st_Stitch_mark) F_Stitch_mark sc_Stitch_mark (b_Stitch_mark )) k_Stitch_mark
  have O_letter_of : FnOk P w K mg base (L2.CX P w) 2 (He.fAd K d1.at_) fd_letter_of ["side", "front", "back"] (spOf g 3 s_letter_of) := fn_sub (fn_defD (W := ⟨P, w, g, mg, base, 0, false⟩) (st := st_letter_of) F_letter_of sc_letter_of (b_letter_of )) k_letter_of
  have O_Plain_mark : FnOk P w K mg base (L2.CX P w) 4 (He.fAd K d2.at_) fd_Plain_mark ["self"] (spOf g 1 s_Plain_mark) := fn_pg (fn_defD (W := ⟨P, w, g, mg, base, 2, false⟩) (st := st_Plain_mark) F_Plain_mark sc_Plain_mark (b_Plain_mark (fun q k hq => match q, hq with
    | 0, hq => nomatch (show (none : Option Nat) = some k from hq)
    | 1, hq => nomatch (show (none : Option Nat) = some k from hq)
    | 2, hq => nomatch (show (none : Option Nat) = some k from hq)
    | 3, hq => nomatch (show (none : Option Nat) = some k from hq)
    | 4, hq => nomatch (show (none : Option Nat) = some k from hq)
    | 5, hq => nomatch (show (none : Option Nat) = some k from hq)
    | 6, hq => nomatch (show (none : Option Nat) = some k from hq)
    | 7, hq => nomatch (show (none : Option Nat) = some k from hq)
    | 8, hq => nomatch (show (none : Option Nat) = some k from hq)
    | 9, hq => nomatch (show (none : Option Nat) = some k from hq)
    | 10, hq => nomatch (show (none : Option Nat) = some k from hq)
    | 11, hq => nomatch (show (none : Option Nat) = some k from hq)
    | 12, hq => nomatch (show (none : Option Nat) = some k from hq)
    | 13, hq => by
      have e : some 0 = some k := hq
      cases e
      exact ⟨C_Plain, rfl⟩
    | 14, hq => nomatch (show (none : Option Nat) = some k from hq)
    | 15, hq => nomatch (show (none : Option Nat) = some k from hq)
    | 16, hq => by
      have e : some 2 = some k := hq
      cases e
      exact ⟨C_Lean, rfl⟩
    | 17, hq => by
      have e : some 1 = some k := hq
      cases e
      exact ⟨C_Grow, rfl⟩
    | 18, hq => by
      have e : some 3 = some k := hq
      cases e
      exact ⟨C_Cross, rfl⟩
    | 19, hq => nomatch (show (none : Option Nat) = some k from hq)
    | 20, hq => nomatch (show (none : Option Nat) = some k from hq)
    | 21, hq => nomatch (show (none : Option Nat) = some k from hq)
    | _ + 22, hq => nomatch (show (none : Option Nat) = some k from hq))
      (callW_of O_letter_of (by first | exact Nat.le_of_ble_eq_true rfl | (dsimp only; omega)) (He.glo_ok X G (x := "letter_of") (c.fact 22 rfl)) F_letter_of.kp (F_letter_of.bindsN (ps := ["side", "front", "back"]) fun _ _ _ _ _ _ us hl => match us, hl with | [_, _, _], _ => rfl)))) k_Plain_mark
  have O_Slip_mark : FnOk P w K mg base (L2.CX P w) 2 (He.fAd K d3.at_) fd_Slip_mark ["self"] (spOf g 1 s_Slip_mark) := fn_pg (fn_defD (W := ⟨P, w, g, mg, base, 0, false⟩) (st := st_Slip_mark) F_Slip_mark sc_Slip_mark (b_Slip_mark )) k_Slip_mark
  have O_Over_mark : FnOk P w K mg base (L2.CX P w) 2 (He.fAd K d4.at_) fd_Over_mark ["self"] (spOf g 1 s_Over_mark) := fn_pg (fn_defD (W := ⟨P, w, g, mg, base, 0, false⟩) (st := st_Over_mark) F_Over_mark sc_Over_mark (b_Over_mark )) k_Over_mark
  have O_Lean_mark : FnOk P w K mg base (L2.CX P w) 4 (He.fAd K d5.at_) fd_Lean_mark ["self"] (spOf g 1 s_Lean_mark) := fn_pg (fn_defD (W := ⟨P, w, g, mg, base, 2, false⟩) (st := st_Lean_mark) F_Lean_mark sc_Lean_mark (b_Lean_mark (fun q k hq => match q, hq with
    | 0, hq => nomatch (show (none : Option Nat) = some k from hq)
    | 1, hq => nomatch (show (none : Option Nat) = some k from hq)
    | 2, hq => nomatch (show (none : Option Nat) = some k from hq)
    | 3, hq => nomatch (show (none : Option Nat) = some k from hq)
    | 4, hq => nomatch (show (none : Option Nat) = some k from hq)
    | 5, hq => nomatch (show (none : Option Nat) = some k from hq)
    | 6, hq => nomatch (show (none : Option Nat) = some k from hq)
    | 7, hq => nomatch (show (none : Option Nat) = some k from hq)
    | 8, hq => nomatch (show (none : Option Nat) = some k from hq)
    | 9, hq => nomatch (show (none : Option Nat) = some k from hq)
    | 10, hq => nomatch (show (none : Option Nat) = some k from hq)
    | 11, hq => nomatch (show (none : Option Nat) = some k from hq)
    | 12, hq => nomatch (show (none : Option Nat) = some k from hq)
    | 13, hq => by
      have e : some 0 = some k := hq
      cases e
      exact ⟨C_Plain, rfl⟩
    | 14, hq => nomatch (show (none : Option Nat) = some k from hq)
    | 15, hq => nomatch (show (none : Option Nat) = some k from hq)
    | 16, hq => by
      have e : some 2 = some k := hq
      cases e
      exact ⟨C_Lean, rfl⟩
    | 17, hq => by
      have e : some 1 = some k := hq
      cases e
      exact ⟨C_Grow, rfl⟩
    | 18, hq => by
      have e : some 3 = some k := hq
      cases e
      exact ⟨C_Cross, rfl⟩
    | 19, hq => nomatch (show (none : Option Nat) = some k from hq)
    | 20, hq => nomatch (show (none : Option Nat) = some k from hq)
    | 21, hq => nomatch (show (none : Option Nat) = some k from hq)
    | _ + 22, hq => nomatch (show (none : Option Nat) = some k from hq))
      (callW_of O_letter_of (by first | exact Nat.le_of_ble_eq_true rfl | (dsimp only; omega)) (He.glo_ok X G (x := "letter_of") (c.fact 22 rfl)) F_letter_of.kp (F_letter_of.bindsN (ps := ["side", "front", "back"]) fun _ _ _ _ _ _ us hl => match us, hl with | [_, _, _], _ => rfl))
      ⟨He.free_ok X G (c.fact 23 rfl)⟩
      (fun q k hq => match q, hq with
    | 0, hq => nomatch (show (none : Option Nat) = some k from hq)
    | 1, hq => nomatch (show (none : Option Nat) = some k from hq)
    | 2, hq => nomatch (show (none : Option Nat) = some k from hq)
    | 3, hq => nomatch (show (none : Option Nat) = some k from hq)
    | 4, hq => nomatch (show (none : Option Nat) = some k from hq)
    | 5, hq => nomatch (show (none : Option Nat) = some k from hq)
    | 6, hq => nomatch (show (none : Option Nat) = some k from hq)
    | 7, hq => nomatch (show (none : Option Nat) = some k from hq)
    | 8, hq => nomatch (show (none : Option Nat) = some k from hq)
    | 9, hq => nomatch (show (none : Option Nat) = some k from hq)
    | 10, hq => nomatch (show (none : Option Nat) = some k from hq)
    | 11, hq => nomatch (show (none : Option Nat) = some k from hq)
    | 12, hq => nomatch (show (none : Option Nat) = some k from hq)
    | 13, hq => nomatch (show (none : Option Nat) = some k from hq)
    | 14, hq => nomatch (show (none : Option Nat) = some k from hq)
    | 15, hq => nomatch (show (none : Option Nat) = some k from hq)
    | 16, hq => by
      have e : some 0 = some k := hq
      cases e
      exact ⟨C_Lean, rfl⟩
    | 17, hq => by
      have e : some 0 = some k := hq
      cases e
      exact ⟨C_Grow, rfl⟩
    | 18, hq => nomatch (show (none : Option Nat) = some k from hq)
    | 19, hq => nomatch (show (none : Option Nat) = some k from hq)
    | 20, hq => nomatch (show (none : Option Nat) = some k from hq)
    | 21, hq => nomatch (show (none : Option Nat) = some k from hq)
    | _ + 22, hq => nomatch (show (none : Option Nat) = some k from hq))
      (fun q k hq => match q, hq with
    | 0, hq => nomatch (show (none : Option Nat) = some k from hq)
    | 1, hq => nomatch (show (none : Option Nat) = some k from hq)
    | 2, hq => nomatch (show (none : Option Nat) = some k from hq)
    | 3, hq => nomatch (show (none : Option Nat) = some k from hq)
    | 4, hq => nomatch (show (none : Option Nat) = some k from hq)
    | 5, hq => nomatch (show (none : Option Nat) = some k from hq)
    | 6, hq => nomatch (show (none : Option Nat) = some k from hq)
    | 7, hq => nomatch (show (none : Option Nat) = some k from hq)
    | 8, hq => nomatch (show (none : Option Nat) = some k from hq)
    | 9, hq => nomatch (show (none : Option Nat) = some k from hq)
    | 10, hq => nomatch (show (none : Option Nat) = some k from hq)
    | 11, hq => nomatch (show (none : Option Nat) = some k from hq)
    | 12, hq => nomatch (show (none : Option Nat) = some k from hq)
    | 13, hq => nomatch (show (none : Option Nat) = some k from hq)
    | 14, hq => nomatch (show (none : Option Nat) = some k from hq)
    | 15, hq => nomatch (show (none : Option Nat) = some k from hq)
    | 16, hq => by
      have e : some 1 = some k := hq
      cases e
      exact ⟨C_Lean, rfl⟩
    | 17, hq => nomatch (show (none : Option Nat) = some k from hq)
    | 18, hq => by
      have e : some 2 = some k := hq
      cases e
      exact ⟨C_Cross, rfl⟩
    | 19, hq => nomatch (show (none : Option Nat) = some k from hq)
    | 20, hq => nomatch (show (none : Option Nat) = some k from hq)
    | 21, hq => nomatch (show (none : Option Nat) = some k from hq)
    | _ + 22, hq => nomatch (show (none : Option Nat) = some k from hq)))) k_Lean_mark
  have O_Grow_mark : FnOk P w K mg base (L2.CX P w) 4 (He.fAd K d6.at_) fd_Grow_mark ["self"] (spOf g 1 s_Grow_mark) := fn_pg (fn_defD (W := ⟨P, w, g, mg, base, 2, false⟩) (st := st_Grow_mark) F_Grow_mark sc_Grow_mark (b_Grow_mark (fun q k hq => match q, hq with
    | 0, hq => nomatch (show (none : Option Nat) = some k from hq)
    | 1, hq => nomatch (show (none : Option Nat) = some k from hq)
    | 2, hq => nomatch (show (none : Option Nat) = some k from hq)
    | 3, hq => nomatch (show (none : Option Nat) = some k from hq)
    | 4, hq => nomatch (show (none : Option Nat) = some k from hq)
    | 5, hq => nomatch (show (none : Option Nat) = some k from hq)
    | 6, hq => nomatch (show (none : Option Nat) = some k from hq)
    | 7, hq => nomatch (show (none : Option Nat) = some k from hq)
    | 8, hq => nomatch (show (none : Option Nat) = some k from hq)
    | 9, hq => nomatch (show (none : Option Nat) = some k from hq)
    | 10, hq => nomatch (show (none : Option Nat) = some k from hq)
    | 11, hq => nomatch (show (none : Option Nat) = some k from hq)
    | 12, hq => nomatch (show (none : Option Nat) = some k from hq)
    | 13, hq => by
      have e : some 0 = some k := hq
      cases e
      exact ⟨C_Plain, rfl⟩
    | 14, hq => nomatch (show (none : Option Nat) = some k from hq)
    | 15, hq => nomatch (show (none : Option Nat) = some k from hq)
    | 16, hq => by
      have e : some 2 = some k := hq
      cases e
      exact ⟨C_Lean, rfl⟩
    | 17, hq => by
      have e : some 1 = some k := hq
      cases e
      exact ⟨C_Grow, rfl⟩
    | 18, hq => by
      have e : some 3 = some k := hq
      cases e
      exact ⟨C_Cross, rfl⟩
    | 19, hq => nomatch (show (none : Option Nat) = some k from hq)
    | 20, hq => nomatch (show (none : Option Nat) = some k from hq)
    | 21, hq => nomatch (show (none : Option Nat) = some k from hq)
    | _ + 22, hq => nomatch (show (none : Option Nat) = some k from hq))
      (callW_of O_letter_of (by first | exact Nat.le_of_ble_eq_true rfl | (dsimp only; omega)) (He.glo_ok X G (x := "letter_of") (c.fact 22 rfl)) F_letter_of.kp (F_letter_of.bindsN (ps := ["side", "front", "back"]) fun _ _ _ _ _ _ us hl => match us, hl with | [_, _, _], _ => rfl))
      ⟨He.free_ok X G (c.fact 23 rfl)⟩
      (fun q k hq => match q, hq with
    | 0, hq => nomatch (show (none : Option Nat) = some k from hq)
    | 1, hq => nomatch (show (none : Option Nat) = some k from hq)
    | 2, hq => nomatch (show (none : Option Nat) = some k from hq)
    | 3, hq => nomatch (show (none : Option Nat) = some k from hq)
    | 4, hq => nomatch (show (none : Option Nat) = some k from hq)
    | 5, hq => nomatch (show (none : Option Nat) = some k from hq)
    | 6, hq => nomatch (show (none : Option Nat) = some k from hq)
    | 7, hq => nomatch (show (none : Option Nat) = some k from hq)
    | 8, hq => nomatch (show (none : Option Nat) = some k from hq)
    | 9, hq => nomatch (show (none : Option Nat) = some k from hq)
    | 10, hq => nomatch (show (none : Option Nat) = some k from hq)
    | 11, hq => nomatch (show (none : Option Nat) = some k from hq)
    | 12, hq => nomatch (show (none : Option Nat) = some k from hq)
    | 13, hq => nomatch (show (none : Option Nat) = some k from hq)
    | 14, hq => nomatch (show (none : Option Nat) = some k from hq)
    | 15, hq => nomatch (show (none : Option Nat) = some k from hq)
    | 16, hq => by
      have e : some 0 = some k := hq
      cases e
      exact ⟨C_Lean, rfl⟩
    | 17, hq => by
      have e : some 0 = some k := hq
      cases e
      exact ⟨C_Grow, rfl⟩
    | 18, hq => nomatch (show (none : Option Nat) = some k from hq)
    | 19, hq => nomatch (show (none : Option Nat) = some k from hq)
    | 20, hq => nomatch (show (none : Option Nat) = some k from hq)
    | 21, hq => nomatch (show (none : Option Nat) = some k from hq)
    | _ + 22, hq => nomatch (show (none : Option Nat) = some k from hq)))) k_Grow_mark
  have O_Cross_mark : FnOk P w K mg base (L2.CX P w) 4 (He.fAd K d7.at_) fd_Cross_mark ["self"] (spOf g 1 s_Cross_mark) := fn_pg (fn_defD (W := ⟨P, w, g, mg, base, 2, false⟩) (st := st_Cross_mark) F_Cross_mark sc_Cross_mark (b_Cross_mark (fun q k hq => match q, hq with
    | 0, hq => nomatch (show (none : Option Nat) = some k from hq)
    | 1, hq => nomatch (show (none : Option Nat) = some k from hq)
    | 2, hq => nomatch (show (none : Option Nat) = some k from hq)
    | 3, hq => nomatch (show (none : Option Nat) = some k from hq)
    | 4, hq => nomatch (show (none : Option Nat) = some k from hq)
    | 5, hq => nomatch (show (none : Option Nat) = some k from hq)
    | 6, hq => nomatch (show (none : Option Nat) = some k from hq)
    | 7, hq => nomatch (show (none : Option Nat) = some k from hq)
    | 8, hq => nomatch (show (none : Option Nat) = some k from hq)
    | 9, hq => nomatch (show (none : Option Nat) = some k from hq)
    | 10, hq => nomatch (show (none : Option Nat) = some k from hq)
    | 11, hq => nomatch (show (none : Option Nat) = some k from hq)
    | 12, hq => nomatch (show (none : Option Nat) = some k from hq)
    | 13, hq => by
      have e : some 0 = some k := hq
      cases e
      exact ⟨C_Plain, rfl⟩
    | 14, hq => nomatch (show (none : Option Nat) = some k from hq)
    | 15, hq => nomatch (show (none : Option Nat) = some k from hq)
    | 16, hq => by
      have e : some 2 = some k := hq
      cases e
      exact ⟨C_Lean, rfl⟩
    | 17, hq => by
      have e : some 1 = some k := hq
      cases e
      exact ⟨C_Grow, rfl⟩
    | 18, hq => by
      have e : some 3 = some k := hq
      cases e
      exact ⟨C_Cross, rfl⟩
    | 19, hq => nomatch (show (none : Option Nat) = some k from hq)
    | 20, hq => nomatch (show (none : Option Nat) = some k from hq)
    | 21, hq => nomatch (show (none : Option Nat) = some k from hq)
    | _ + 22, hq => nomatch (show (none : Option Nat) = some k from hq))
      (callW_of O_letter_of (by first | exact Nat.le_of_ble_eq_true rfl | (dsimp only; omega)) (He.glo_ok X G (x := "letter_of") (c.fact 22 rfl)) F_letter_of.kp (F_letter_of.bindsN (ps := ["side", "front", "back"]) fun _ _ _ _ _ _ us hl => match us, hl with | [_, _, _], _ => rfl))
      ⟨He.free_ok X G (c.fact 23 rfl)⟩
      (fun q k hq => match q, hq with
    | 0, hq => nomatch (show (none : Option Nat) = some k from hq)
    | 1, hq => nomatch (show (none : Option Nat) = some k from hq)
    | 2, hq => nomatch (show (none : Option Nat) = some k from hq)
    | 3, hq => nomatch (show (none : Option Nat) = some k from hq)
    | 4, hq => nomatch (show (none : Option Nat) = some k from hq)
    | 5, hq => nomatch (show (none : Option Nat) = some k from hq)
    | 6, hq => nomatch (show (none : Option Nat) = some k from hq)
    | 7, hq => nomatch (show (none : Option Nat) = some k from hq)
    | 8, hq => nomatch (show (none : Option Nat) = some k from hq)
    | 9, hq => nomatch (show (none : Option Nat) = some k from hq)
    | 10, hq => nomatch (show (none : Option Nat) = some k from hq)
    | 11, hq => nomatch (show (none : Option Nat) = some k from hq)
    | 12, hq => nomatch (show (none : Option Nat) = some k from hq)
    | 13, hq => nomatch (show (none : Option Nat) = some k from hq)
    | 14, hq => nomatch (show (none : Option Nat) = some k from hq)
    | 15, hq => nomatch (show (none : Option Nat) = some k from hq)
    | 16, hq => nomatch (show (none : Option Nat) = some k from hq)
    | 17, hq => nomatch (show (none : Option Nat) = some k from hq)
    | 18, hq => by
      have e : some 0 = some k := hq
      cases e
      exact ⟨C_Cross, rfl⟩
    | 19, hq => nomatch (show (none : Option Nat) = some k from hq)
    | 20, hq => nomatch (show (none : Option Nat) = some k from hq)
    | 21, hq => nomatch (show (none : Option Nat) = some k from hq)
    | _ + 22, hq => nomatch (show (none : Option Nat) = some k from hq))
      (fun q k hq => match q, hq with
    | 0, hq => nomatch (show (none : Option Nat) = some k from hq)
    | 1, hq => nomatch (show (none : Option Nat) = some k from hq)
    | 2, hq => nomatch (show (none : Option Nat) = some k from hq)
    | 3, hq => nomatch (show (none : Option Nat) = some k from hq)
    | 4, hq => nomatch (show (none : Option Nat) = some k from hq)
    | 5, hq => nomatch (show (none : Option Nat) = some k from hq)
    | 6, hq => nomatch (show (none : Option Nat) = some k from hq)
    | 7, hq => nomatch (show (none : Option Nat) = some k from hq)
    | 8, hq => nomatch (show (none : Option Nat) = some k from hq)
    | 9, hq => nomatch (show (none : Option Nat) = some k from hq)
    | 10, hq => nomatch (show (none : Option Nat) = some k from hq)
    | 11, hq => nomatch (show (none : Option Nat) = some k from hq)
    | 12, hq => nomatch (show (none : Option Nat) = some k from hq)
    | 13, hq => nomatch (show (none : Option Nat) = some k from hq)
    | 14, hq => nomatch (show (none : Option Nat) = some k from hq)
    | 15, hq => nomatch (show (none : Option Nat) = some k from hq)
    | 16, hq => by
      have e : some 1 = some k := hq
      cases e
      exact ⟨C_Lean, rfl⟩
    | 17, hq => nomatch (show (none : Option Nat) = some k from hq)
    | 18, hq => by
      have e : some 2 = some k := hq
      cases e
      exact ⟨C_Cross, rfl⟩
    | 19, hq => nomatch (show (none : Option Nat) = some k from hq)
    | 20, hq => nomatch (show (none : Option Nat) = some k from hq)
    | 21, hq => nomatch (show (none : Option Nat) = some k from hq)
    | _ + 22, hq => nomatch (show (none : Option Nat) = some k from hq))
      (fun q k hq => match q, hq with
    | 0, hq => nomatch (show (none : Option Nat) = some k from hq)
    | 1, hq => nomatch (show (none : Option Nat) = some k from hq)
    | 2, hq => nomatch (show (none : Option Nat) = some k from hq)
    | 3, hq => nomatch (show (none : Option Nat) = some k from hq)
    | 4, hq => nomatch (show (none : Option Nat) = some k from hq)
    | 5, hq => nomatch (show (none : Option Nat) = some k from hq)
    | 6, hq => nomatch (show (none : Option Nat) = some k from hq)
    | 7, hq => nomatch (show (none : Option Nat) = some k from hq)
    | 8, hq => nomatch (show (none : Option Nat) = some k from hq)
    | 9, hq => nomatch (show (none : Option Nat) = some k from hq)
    | 10, hq => nomatch (show (none : Option Nat) = some k from hq)
    | 11, hq => nomatch (show (none : Option Nat) = some k from hq)
    | 12, hq => nomatch (show (none : Option Nat) = some k from hq)
    | 13, hq => nomatch (show (none : Option Nat) = some k from hq)
    | 14, hq => nomatch (show (none : Option Nat) = some k from hq)
    | 15, hq => nomatch (show (none : Option Nat) = some k from hq)
    | 16, hq => nomatch (show (none : Option Nat) = some k from hq)
    | 17, hq => nomatch (show (none : Option Nat) = some k from hq)
    | 18, hq => by
      have e : some 1 = some k := hq
      cases e
      exact ⟨C_Cross, rfl⟩
    | 19, hq => nomatch (show (none : Option Nat) = some k from hq)
    | 20, hq => nomatch (show (none : Option Nat) = some k from hq)
    | 21, hq => nomatch (show (none : Option Nat) = some k from hq)
    | _ + 22, hq => nomatch (show (none : Option Nat) = some k from hq)))) k_Cross_mark
  have O_Off_mark : FnOk P w K mg base (L2.CX P w) 2 (He.fAd K d8.at_) fd_Off_mark ["self"] (spOf g 1 s_Off_mark) := fn_pg (fn_defD (W := ⟨P, w, g, mg, base, 0, false⟩) (st := st_Off_mark) F_Off_mark sc_Off_mark (b_Off_mark )) k_Off_mark
  have O_Keep_mark : FnOk P w K mg base (L2.CX P w) 2 (He.fAd K d9.at_) fd_Keep_mark ["self"] (spOf g 1 s_Keep_mark) := fn_pg (fn_defD (W := ⟨P, w, g, mg, base, 0, false⟩) (st := st_Keep_mark) F_Keep_mark sc_Keep_mark (b_Keep_mark (fun q k hq => match q, hq with
    | 0, hq => nomatch (show (none : Option Nat) = some k from hq)
    | 1, hq => nomatch (show (none : Option Nat) = some k from hq)
    | 2, hq => nomatch (show (none : Option Nat) = some k from hq)
    | 3, hq => nomatch (show (none : Option Nat) = some k from hq)
    | 4, hq => nomatch (show (none : Option Nat) = some k from hq)
    | 5, hq => nomatch (show (none : Option Nat) = some k from hq)
    | 6, hq => nomatch (show (none : Option Nat) = some k from hq)
    | 7, hq => nomatch (show (none : Option Nat) = some k from hq)
    | 8, hq => nomatch (show (none : Option Nat) = some k from hq)
    | 9, hq => nomatch (show (none : Option Nat) = some k from hq)
    | 10, hq => nomatch (show (none : Option Nat) = some k from hq)
    | 11, hq => nomatch (show (none : Option Nat) = some k from hq)
    | 12, hq => nomatch (show (none : Option Nat) = some k from hq)
    | 13, hq => nomatch (show (none : Option Nat) = some k from hq)
    | 14, hq => nomatch (show (none : Option Nat) = some k from hq)
    | 15, hq => nomatch (show (none : Option Nat) = some k from hq)
    | 16, hq => nomatch (show (none : Option Nat) = some k from hq)
    | 17, hq => nomatch (show (none : Option Nat) = some k from hq)
    | 18, hq => nomatch (show (none : Option Nat) = some k from hq)
    | 19, hq => nomatch (show (none : Option Nat) = some k from hq)
    | 20, hq => by
      have e : some 0 = some k := hq
      cases e
      exact ⟨C_Keep, rfl⟩
    | 21, hq => by
      have e : some 0 = some k := hq
      cases e
      exact ⟨C_Fetch, rfl⟩
    | _ + 22, hq => nomatch (show (none : Option Nat) = some k from hq)))) k_Keep_mark
  have O_Fetch_mark : FnOk P w K mg base (L2.CX P w) 2 (He.fAd K d10.at_) fd_Fetch_mark ["self"] (spOf g 1 s_Fetch_mark) := fn_pg (fn_defD (W := ⟨P, w, g, mg, base, 0, false⟩) (st := st_Fetch_mark) F_Fetch_mark sc_Fetch_mark (b_Fetch_mark (fun q k hq => match q, hq with
    | 0, hq => nomatch (show (none : Option Nat) = some k from hq)
    | 1, hq => nomatch (show (none : Option Nat) = some k from hq)
    | 2, hq => nomatch (show (none : Option Nat) = some k from hq)
    | 3, hq => nomatch (show (none : Option Nat) = some k from hq)
    | 4, hq => nomatch (show (none : Option Nat) = some k from hq)
    | 5, hq => nomatch (show (none : Option Nat) = some k from hq)
    | 6, hq => nomatch (show (none : Option Nat) = some k from hq)
    | 7, hq => nomatch (show (none : Option Nat) = some k from hq)
    | 8, hq => nomatch (show (none : Option Nat) = some k from hq)
    | 9, hq => nomatch (show (none : Option Nat) = some k from hq)
    | 10, hq => nomatch (show (none : Option Nat) = some k from hq)
    | 11, hq => nomatch (show (none : Option Nat) = some k from hq)
    | 12, hq => nomatch (show (none : Option Nat) = some k from hq)
    | 13, hq => nomatch (show (none : Option Nat) = some k from hq)
    | 14, hq => nomatch (show (none : Option Nat) = some k from hq)
    | 15, hq => nomatch (show (none : Option Nat) = some k from hq)
    | 16, hq => nomatch (show (none : Option Nat) = some k from hq)
    | 17, hq => nomatch (show (none : Option Nat) = some k from hq)
    | 18, hq => nomatch (show (none : Option Nat) = some k from hq)
    | 19, hq => nomatch (show (none : Option Nat) = some k from hq)
    | 20, hq => by
      have e : some 0 = some k := hq
      cases e
      exact ⟨C_Keep, rfl⟩
    | 21, hq => by
      have e : some 0 = some k := hq
      cases e
      exact ⟨C_Fetch, rfl⟩
    | _ + 22, hq => nomatch (show (none : Option Nat) = some k from hq)))) k_Fetch_mark
  have ON_Fetch_init : FnOk P w K mg base (L2N.CX P w) 2 (He.fAd K d11.at_) fd_Fetch_init ["self", "keeper"] (spOf g 2 s_Fetch_init) := fn_sub (fn_defD (W := ⟨P, w, g, mg, base, 0, true⟩) (st := st_Fetch_init) F_Fetch_init sc_Fetch_init (b_Fetch_init (fun q k hq => match q, hq with
    | 0, hq => nomatch (show (none : Option Nat) = some k from hq)
    | 1, hq => nomatch (show (none : Option Nat) = some k from hq)
    | 2, hq => nomatch (show (none : Option Nat) = some k from hq)
    | 3, hq => nomatch (show (none : Option Nat) = some k from hq)
    | 4, hq => nomatch (show (none : Option Nat) = some k from hq)
    | 5, hq => nomatch (show (none : Option Nat) = some k from hq)
    | 6, hq => nomatch (show (none : Option Nat) = some k from hq)
    | 7, hq => nomatch (show (none : Option Nat) = some k from hq)
    | 8, hq => nomatch (show (none : Option Nat) = some k from hq)
    | 9, hq => nomatch (show (none : Option Nat) = some k from hq)
    | 10, hq => nomatch (show (none : Option Nat) = some k from hq)
    | 11, hq => nomatch (show (none : Option Nat) = some k from hq)
    | 12, hq => nomatch (show (none : Option Nat) = some k from hq)
    | 13, hq => nomatch (show (none : Option Nat) = some k from hq)
    | 14, hq => nomatch (show (none : Option Nat) = some k from hq)
    | 15, hq => nomatch (show (none : Option Nat) = some k from hq)
    | 16, hq => nomatch (show (none : Option Nat) = some k from hq)
    | 17, hq => nomatch (show (none : Option Nat) = some k from hq)
    | 18, hq => nomatch (show (none : Option Nat) = some k from hq)
    | 19, hq => nomatch (show (none : Option Nat) = some k from hq)
    | 20, hq => by
      have e : some 0 = some k := hq
      cases e
      exact ⟨C_Keep, rfl⟩
    | 21, hq => by
      have e : some 0 = some k := hq
      cases e
      exact ⟨C_Fetch, rfl⟩
    | _ + 22, hq => nomatch (show (none : Option Nat) = some k from hq)))) k_Fetch_init
  have O_Fetch_init : FnOk P w K mg base (L2.CX P w) 2 (He.fAd K d11.at_) fd_Fetch_init ["self", "keeper"] (spOf g 2 s_Fetch_init) := fnok_weak ON_Fetch_init
  have ON_Keep_init : FnOk P w K mg base (L2N.CX P w) 2 (He.fAd K d12.at_) fd_Keep_init ["self", "keeper"] (spOf g 2 s_Keep_init) := fn_sub (fn_defD (W := ⟨P, w, g, mg, base, 0, true⟩) (st := st_Keep_init) F_Keep_init sc_Keep_init (b_Keep_init (fun q k hq => match q, hq with
    | 0, hq => nomatch (show (none : Option Nat) = some k from hq)
    | 1, hq => nomatch (show (none : Option Nat) = some k from hq)
    | 2, hq => nomatch (show (none : Option Nat) = some k from hq)
    | 3, hq => nomatch (show (none : Option Nat) = some k from hq)
    | 4, hq => nomatch (show (none : Option Nat) = some k from hq)
    | 5, hq => nomatch (show (none : Option Nat) = some k from hq)
    | 6, hq => nomatch (show (none : Option Nat) = some k from hq)
    | 7, hq => nomatch (show (none : Option Nat) = some k from hq)
    | 8, hq => nomatch (show (none : Option Nat) = some k from hq)
    | 9, hq => nomatch (show (none : Option Nat) = some k from hq)
    | 10, hq => nomatch (show (none : Option Nat) = some k from hq)
    | 11, hq => nomatch (show (none : Option Nat) = some k from hq)
    | 12, hq => nomatch (show (none : Option Nat) = some k from hq)
    | 13, hq => nomatch (show (none : Option Nat) = some k from hq)
    | 14, hq => nomatch (show (none : Option Nat) = some k from hq)
    | 15, hq => nomatch (show (none : Option Nat) = some k from hq)
    | 16, hq => nomatch (show (none : Option Nat) = some k from hq)
    | 17, hq => nomatch (show (none : Option Nat) = some k from hq)
    | 18, hq => nomatch (show (none : Option Nat) = some k from hq)
    | 19, hq => nomatch (show (none : Option Nat) = some k from hq)
    | 20, hq => by
      have e : some 0 = some k := hq
      cases e
      exact ⟨C_Keep, rfl⟩
    | 21, hq => by
      have e : some 0 = some k := hq
      cases e
      exact ⟨C_Fetch, rfl⟩
    | _ + 22, hq => nomatch (show (none : Option Nat) = some k from hq)))) k_Keep_init
  have O_Keep_init : FnOk P w K mg base (L2.CX P w) 2 (He.fAd K d12.at_) fd_Keep_init ["self", "keeper"] (spOf g 2 s_Keep_init) := fnok_weak ON_Keep_init
  have ON_Plain_init : FnOk P w K mg base (L2N.CX P w) 2 (He.fAd K d13.at_) fd_Plain_init ["self", "side"] (spOf g 2 s_Plain_init) := fn_sub (fn_defD (W := ⟨P, w, g, mg, base, 0, true⟩) (st := st_Plain_init) F_Plain_init sc_Plain_init (b_Plain_init (fun q k hq => match q, hq with
    | 0, hq => nomatch (show (none : Option Nat) = some k from hq)
    | 1, hq => nomatch (show (none : Option Nat) = some k from hq)
    | 2, hq => nomatch (show (none : Option Nat) = some k from hq)
    | 3, hq => nomatch (show (none : Option Nat) = some k from hq)
    | 4, hq => nomatch (show (none : Option Nat) = some k from hq)
    | 5, hq => nomatch (show (none : Option Nat) = some k from hq)
    | 6, hq => nomatch (show (none : Option Nat) = some k from hq)
    | 7, hq => nomatch (show (none : Option Nat) = some k from hq)
    | 8, hq => nomatch (show (none : Option Nat) = some k from hq)
    | 9, hq => nomatch (show (none : Option Nat) = some k from hq)
    | 10, hq => nomatch (show (none : Option Nat) = some k from hq)
    | 11, hq => nomatch (show (none : Option Nat) = some k from hq)
    | 12, hq => nomatch (show (none : Option Nat) = some k from hq)
    | 13, hq => by
      have e : some 0 = some k := hq
      cases e
      exact ⟨C_Plain, rfl⟩
    | 14, hq => nomatch (show (none : Option Nat) = some k from hq)
    | 15, hq => nomatch (show (none : Option Nat) = some k from hq)
    | 16, hq => by
      have e : some 2 = some k := hq
      cases e
      exact ⟨C_Lean, rfl⟩
    | 17, hq => by
      have e : some 1 = some k := hq
      cases e
      exact ⟨C_Grow, rfl⟩
    | 18, hq => by
      have e : some 3 = some k := hq
      cases e
      exact ⟨C_Cross, rfl⟩
    | 19, hq => nomatch (show (none : Option Nat) = some k from hq)
    | 20, hq => nomatch (show (none : Option Nat) = some k from hq)
    | 21, hq => nomatch (show (none : Option Nat) = some k from hq)
    | _ + 22, hq => nomatch (show (none : Option Nat) = some k from hq)))) k_Plain_init
  have O_Plain_init : FnOk P w K mg base (L2.CX P w) 2 (He.fAd K d13.at_) fd_Plain_init ["self", "side"] (spOf g 2 s_Plain_init) := fnok_weak ON_Plain_init
  have ON_short_one : FnOk P w K mg base (L2N.CX P w) 4 (He.fAd K d14.at_) fd_short_one ["mark"] (spOf g 1 s_short_one) := fn_sub (fn_defD (W := ⟨P, w, g, mg, base, 2, true⟩) (st := st_short_one) F_short_one sc_short_one (b_short_one ⟨He.free_ok X G (c.fact 24 rfl)⟩
      (glb_of (const_ok X G (fq_at cq 0 rfl)) (by first | exact .inl rfl | exact .inr rfl))
      (makeW_of ON_Fetch_init (by first | exact Nat.le_of_ble_eq_true rfl | (dsimp only; omega)) (He.mkr_ok (x := "Fetch") (c.fact 26 rfl)) rfl (He.glo_ok X G (x := "Fetch") (c.fact 25 rfl)) (F_Fetch_init.bindsN (ps := ["self", "keeper"]) fun _ _ _ _ _ _ us hl => match us, hl with | [_, _], _ => rfl))
      (makeW_of ON_Keep_init (by first | exact Nat.le_of_ble_eq_true rfl | (dsimp only; omega)) (He.mkr_ok (x := "Keep") (c.fact 28 rfl)) rfl (He.glo_ok X G (x := "Keep") (c.fact 27 rfl)) (F_Keep_init.bindsN (ps := ["self", "keeper"]) fun _ _ _ _ _ _ us hl => match us, hl with | [_, _], _ => rfl))
      (plW_of (pl_ok (x := "Off") (fq_at cq 1 rfl)) rfl (He.glo_ok X G (x := "Off") (c.fact 29 rfl)))
      (plW_of (pl_ok (x := "Over") (fq_at cq 2 rfl)) rfl (He.glo_ok X G (x := "Over") (c.fact 30 rfl)))
      (plW_of (pl_ok (x := "Slip") (fq_at cq 3 rfl)) rfl (He.glo_ok X G (x := "Slip") (c.fact 31 rfl)))
      (makeW_of ON_Plain_init (by first | exact Nat.le_of_ble_eq_true rfl | (dsimp only; omega)) (He.mkr_ok (x := "Plain") (c.fact 33 rfl)) rfl (He.glo_ok X G (x := "Plain") (c.fact 32 rfl)) (F_Plain_init.bindsN (ps := ["self", "side"]) fun _ _ _ _ _ _ us hl => match us, hl with | [_, _], _ => rfl)))) k_short_one
  have O_short_one : FnOk P w K mg base (L2.CX P w) 4 (He.fAd K d14.at_) fd_short_one ["mark"] (spOf g 1 s_short_one) := fnok_weak ON_short_one
  have ON_Cross_init : FnOk P w K mg base (L2N.CX P w) 2 (He.fAd K d15.at_) fd_Cross_init ["self", "first", "second", "way", "side"] (spOf g 5 s_Cross_init) := fn_sub (fn_defD (W := ⟨P, w, g, mg, base, 0, true⟩) (st := st_Cross_init) F_Cross_init sc_Cross_init (b_Cross_init (fun q k hq => match q, hq with
    | 0, hq => nomatch (show (none : Option Nat) = some k from hq)
    | 1, hq => nomatch (show (none : Option Nat) = some k from hq)
    | 2, hq => nomatch (show (none : Option Nat) = some k from hq)
    | 3, hq => nomatch (show (none : Option Nat) = some k from hq)
    | 4, hq => nomatch (show (none : Option Nat) = some k from hq)
    | 5, hq => nomatch (show (none : Option Nat) = some k from hq)
    | 6, hq => nomatch (show (none : Option Nat) = some k from hq)
    | 7, hq => nomatch (show (none : Option Nat) = some k from hq)
    | 8, hq => nomatch (show (none : Option Nat) = some k from hq)
    | 9, hq => nomatch (show (none : Option Nat) = some k from hq)
    | 10, hq => nomatch (show (none : Option Nat) = some k from hq)
    | 11, hq => nomatch (show (none : Option Nat) = some k from hq)
    | 12, hq => nomatch (show (none : Option Nat) = some k from hq)
    | 13, hq => by
      have e : some 0 = some k := hq
      cases e
      exact ⟨C_Plain, rfl⟩
    | 14, hq => nomatch (show (none : Option Nat) = some k from hq)
    | 15, hq => nomatch (show (none : Option Nat) = some k from hq)
    | 16, hq => by
      have e : some 2 = some k := hq
      cases e
      exact ⟨C_Lean, rfl⟩
    | 17, hq => by
      have e : some 1 = some k := hq
      cases e
      exact ⟨C_Grow, rfl⟩
    | 18, hq => by
      have e : some 3 = some k := hq
      cases e
      exact ⟨C_Cross, rfl⟩
    | 19, hq => nomatch (show (none : Option Nat) = some k from hq)
    | 20, hq => nomatch (show (none : Option Nat) = some k from hq)
    | 21, hq => nomatch (show (none : Option Nat) = some k from hq)
    | _ + 22, hq => nomatch (show (none : Option Nat) = some k from hq))
      (fun q k hq => match q, hq with
    | 0, hq => nomatch (show (none : Option Nat) = some k from hq)
    | 1, hq => nomatch (show (none : Option Nat) = some k from hq)
    | 2, hq => nomatch (show (none : Option Nat) = some k from hq)
    | 3, hq => nomatch (show (none : Option Nat) = some k from hq)
    | 4, hq => nomatch (show (none : Option Nat) = some k from hq)
    | 5, hq => nomatch (show (none : Option Nat) = some k from hq)
    | 6, hq => nomatch (show (none : Option Nat) = some k from hq)
    | 7, hq => nomatch (show (none : Option Nat) = some k from hq)
    | 8, hq => nomatch (show (none : Option Nat) = some k from hq)
    | 9, hq => nomatch (show (none : Option Nat) = some k from hq)
    | 10, hq => nomatch (show (none : Option Nat) = some k from hq)
    | 11, hq => nomatch (show (none : Option Nat) = some k from hq)
    | 12, hq => nomatch (show (none : Option Nat) = some k from hq)
    | 13, hq => nomatch (show (none : Option Nat) = some k from hq)
    | 14, hq => nomatch (show (none : Option Nat) = some k from hq)
    | 15, hq => nomatch (show (none : Option Nat) = some k from hq)
    | 16, hq => by
      have e : some 1 = some k := hq
      cases e
      exact ⟨C_Lean, rfl⟩
    | 17, hq => nomatch (show (none : Option Nat) = some k from hq)
    | 18, hq => by
      have e : some 2 = some k := hq
      cases e
      exact ⟨C_Cross, rfl⟩
    | 19, hq => nomatch (show (none : Option Nat) = some k from hq)
    | 20, hq => nomatch (show (none : Option Nat) = some k from hq)
    | 21, hq => nomatch (show (none : Option Nat) = some k from hq)
    | _ + 22, hq => nomatch (show (none : Option Nat) = some k from hq))
      (fun q k hq => match q, hq with
    | 0, hq => nomatch (show (none : Option Nat) = some k from hq)
    | 1, hq => nomatch (show (none : Option Nat) = some k from hq)
    | 2, hq => nomatch (show (none : Option Nat) = some k from hq)
    | 3, hq => nomatch (show (none : Option Nat) = some k from hq)
    | 4, hq => nomatch (show (none : Option Nat) = some k from hq)
    | 5, hq => nomatch (show (none : Option Nat) = some k from hq)
    | 6, hq => nomatch (show (none : Option Nat) = some k from hq)
    | 7, hq => nomatch (show (none : Option Nat) = some k from hq)
    | 8, hq => nomatch (show (none : Option Nat) = some k from hq)
    | 9, hq => nomatch (show (none : Option Nat) = some k from hq)
    | 10, hq => nomatch (show (none : Option Nat) = some k from hq)
    | 11, hq => nomatch (show (none : Option Nat) = some k from hq)
    | 12, hq => nomatch (show (none : Option Nat) = some k from hq)
    | 13, hq => nomatch (show (none : Option Nat) = some k from hq)
    | 14, hq => nomatch (show (none : Option Nat) = some k from hq)
    | 15, hq => nomatch (show (none : Option Nat) = some k from hq)
    | 16, hq => nomatch (show (none : Option Nat) = some k from hq)
    | 17, hq => nomatch (show (none : Option Nat) = some k from hq)
    | 18, hq => by
      have e : some 1 = some k := hq
      cases e
      exact ⟨C_Cross, rfl⟩
    | 19, hq => nomatch (show (none : Option Nat) = some k from hq)
    | 20, hq => nomatch (show (none : Option Nat) = some k from hq)
    | 21, hq => nomatch (show (none : Option Nat) = some k from hq)
    | _ + 22, hq => nomatch (show (none : Option Nat) = some k from hq))
      (fun q k hq => match q, hq with
    | 0, hq => nomatch (show (none : Option Nat) = some k from hq)
    | 1, hq => nomatch (show (none : Option Nat) = some k from hq)
    | 2, hq => nomatch (show (none : Option Nat) = some k from hq)
    | 3, hq => nomatch (show (none : Option Nat) = some k from hq)
    | 4, hq => nomatch (show (none : Option Nat) = some k from hq)
    | 5, hq => nomatch (show (none : Option Nat) = some k from hq)
    | 6, hq => nomatch (show (none : Option Nat) = some k from hq)
    | 7, hq => nomatch (show (none : Option Nat) = some k from hq)
    | 8, hq => nomatch (show (none : Option Nat) = some k from hq)
    | 9, hq => nomatch (show (none : Option Nat) = some k from hq)
    | 10, hq => nomatch (show (none : Option Nat) = some k from hq)
    | 11, hq => nomatch (show (none : Option Nat) = some k from hq)
    | 12, hq => nomatch (show (none : Option Nat) = some k from hq)
    | 13, hq => nomatch (show (none : Option Nat) = some k from hq)
    | 14, hq => nomatch (show (none : Option Nat) = some k from hq)
    | 15, hq => nomatch (show (none : Option Nat) = some k from hq)
    | 16, hq => nomatch (show (none : Option Nat) = some k from hq)
    | 17, hq => nomatch (show (none : Option Nat) = some k from hq)
    | 18, hq => by
      have e : some 0 = some k := hq
      cases e
      exact ⟨C_Cross, rfl⟩
    | 19, hq => nomatch (show (none : Option Nat) = some k from hq)
    | 20, hq => nomatch (show (none : Option Nat) = some k from hq)
    | 21, hq => nomatch (show (none : Option Nat) = some k from hq)
    | _ + 22, hq => nomatch (show (none : Option Nat) = some k from hq)))) k_Cross_init
  have O_Cross_init : FnOk P w K mg base (L2.CX P w) 2 (He.fAd K d15.at_) fd_Cross_init ["self", "first", "second", "way", "side"] (spOf g 5 s_Cross_init) := fnok_weak ON_Cross_init
  have ON_Grow_init : FnOk P w K mg base (L2N.CX P w) 2 (He.fAd K d16.at_) fd_Grow_init ["self", "many", "side"] (spOf g 3 s_Grow_init) := fn_sub (fn_defD (W := ⟨P, w, g, mg, base, 0, true⟩) (st := st_Grow_init) F_Grow_init sc_Grow_init (b_Grow_init (fun q k hq => match q, hq with
    | 0, hq => nomatch (show (none : Option Nat) = some k from hq)
    | 1, hq => nomatch (show (none : Option Nat) = some k from hq)
    | 2, hq => nomatch (show (none : Option Nat) = some k from hq)
    | 3, hq => nomatch (show (none : Option Nat) = some k from hq)
    | 4, hq => nomatch (show (none : Option Nat) = some k from hq)
    | 5, hq => nomatch (show (none : Option Nat) = some k from hq)
    | 6, hq => nomatch (show (none : Option Nat) = some k from hq)
    | 7, hq => nomatch (show (none : Option Nat) = some k from hq)
    | 8, hq => nomatch (show (none : Option Nat) = some k from hq)
    | 9, hq => nomatch (show (none : Option Nat) = some k from hq)
    | 10, hq => nomatch (show (none : Option Nat) = some k from hq)
    | 11, hq => nomatch (show (none : Option Nat) = some k from hq)
    | 12, hq => nomatch (show (none : Option Nat) = some k from hq)
    | 13, hq => by
      have e : some 0 = some k := hq
      cases e
      exact ⟨C_Plain, rfl⟩
    | 14, hq => nomatch (show (none : Option Nat) = some k from hq)
    | 15, hq => nomatch (show (none : Option Nat) = some k from hq)
    | 16, hq => by
      have e : some 2 = some k := hq
      cases e
      exact ⟨C_Lean, rfl⟩
    | 17, hq => by
      have e : some 1 = some k := hq
      cases e
      exact ⟨C_Grow, rfl⟩
    | 18, hq => by
      have e : some 3 = some k := hq
      cases e
      exact ⟨C_Cross, rfl⟩
    | 19, hq => nomatch (show (none : Option Nat) = some k from hq)
    | 20, hq => nomatch (show (none : Option Nat) = some k from hq)
    | 21, hq => nomatch (show (none : Option Nat) = some k from hq)
    | _ + 22, hq => nomatch (show (none : Option Nat) = some k from hq))
      (fun q k hq => match q, hq with
    | 0, hq => nomatch (show (none : Option Nat) = some k from hq)
    | 1, hq => nomatch (show (none : Option Nat) = some k from hq)
    | 2, hq => nomatch (show (none : Option Nat) = some k from hq)
    | 3, hq => nomatch (show (none : Option Nat) = some k from hq)
    | 4, hq => nomatch (show (none : Option Nat) = some k from hq)
    | 5, hq => nomatch (show (none : Option Nat) = some k from hq)
    | 6, hq => nomatch (show (none : Option Nat) = some k from hq)
    | 7, hq => nomatch (show (none : Option Nat) = some k from hq)
    | 8, hq => nomatch (show (none : Option Nat) = some k from hq)
    | 9, hq => nomatch (show (none : Option Nat) = some k from hq)
    | 10, hq => nomatch (show (none : Option Nat) = some k from hq)
    | 11, hq => nomatch (show (none : Option Nat) = some k from hq)
    | 12, hq => nomatch (show (none : Option Nat) = some k from hq)
    | 13, hq => nomatch (show (none : Option Nat) = some k from hq)
    | 14, hq => nomatch (show (none : Option Nat) = some k from hq)
    | 15, hq => nomatch (show (none : Option Nat) = some k from hq)
    | 16, hq => by
      have e : some 0 = some k := hq
      cases e
      exact ⟨C_Lean, rfl⟩
    | 17, hq => by
      have e : some 0 = some k := hq
      cases e
      exact ⟨C_Grow, rfl⟩
    | 18, hq => nomatch (show (none : Option Nat) = some k from hq)
    | 19, hq => nomatch (show (none : Option Nat) = some k from hq)
    | 20, hq => nomatch (show (none : Option Nat) = some k from hq)
    | 21, hq => nomatch (show (none : Option Nat) = some k from hq)
    | _ + 22, hq => nomatch (show (none : Option Nat) = some k from hq)))) k_Grow_init
  have O_Grow_init : FnOk P w K mg base (L2.CX P w) 2 (He.fAd K d16.at_) fd_Grow_init ["self", "many", "side"] (spOf g 3 s_Grow_init) := fnok_weak ON_Grow_init
  have ON_Lean_init : FnOk P w K mg base (L2N.CX P w) 2 (He.fAd K d17.at_) fd_Lean_init ["self", "many", "way", "side"] (spOf g 4 s_Lean_init) := fn_sub (fn_defD (W := ⟨P, w, g, mg, base, 0, true⟩) (st := st_Lean_init) F_Lean_init sc_Lean_init (b_Lean_init (fun q k hq => match q, hq with
    | 0, hq => nomatch (show (none : Option Nat) = some k from hq)
    | 1, hq => nomatch (show (none : Option Nat) = some k from hq)
    | 2, hq => nomatch (show (none : Option Nat) = some k from hq)
    | 3, hq => nomatch (show (none : Option Nat) = some k from hq)
    | 4, hq => nomatch (show (none : Option Nat) = some k from hq)
    | 5, hq => nomatch (show (none : Option Nat) = some k from hq)
    | 6, hq => nomatch (show (none : Option Nat) = some k from hq)
    | 7, hq => nomatch (show (none : Option Nat) = some k from hq)
    | 8, hq => nomatch (show (none : Option Nat) = some k from hq)
    | 9, hq => nomatch (show (none : Option Nat) = some k from hq)
    | 10, hq => nomatch (show (none : Option Nat) = some k from hq)
    | 11, hq => nomatch (show (none : Option Nat) = some k from hq)
    | 12, hq => nomatch (show (none : Option Nat) = some k from hq)
    | 13, hq => by
      have e : some 0 = some k := hq
      cases e
      exact ⟨C_Plain, rfl⟩
    | 14, hq => nomatch (show (none : Option Nat) = some k from hq)
    | 15, hq => nomatch (show (none : Option Nat) = some k from hq)
    | 16, hq => by
      have e : some 2 = some k := hq
      cases e
      exact ⟨C_Lean, rfl⟩
    | 17, hq => by
      have e : some 1 = some k := hq
      cases e
      exact ⟨C_Grow, rfl⟩
    | 18, hq => by
      have e : some 3 = some k := hq
      cases e
      exact ⟨C_Cross, rfl⟩
    | 19, hq => nomatch (show (none : Option Nat) = some k from hq)
    | 20, hq => nomatch (show (none : Option Nat) = some k from hq)
    | 21, hq => nomatch (show (none : Option Nat) = some k from hq)
    | _ + 22, hq => nomatch (show (none : Option Nat) = some k from hq))
      (fun q k hq => match q, hq with
    | 0, hq => nomatch (show (none : Option Nat) = some k from hq)
    | 1, hq => nomatch (show (none : Option Nat) = some k from hq)
    | 2, hq => nomatch (show (none : Option Nat) = some k from hq)
    | 3, hq => nomatch (show (none : Option Nat) = some k from hq)
    | 4, hq => nomatch (show (none : Option Nat) = some k from hq)
    | 5, hq => nomatch (show (none : Option Nat) = some k from hq)
    | 6, hq => nomatch (show (none : Option Nat) = some k from hq)
    | 7, hq => nomatch (show (none : Option Nat) = some k from hq)
    | 8, hq => nomatch (show (none : Option Nat) = some k from hq)
    | 9, hq => nomatch (show (none : Option Nat) = some k from hq)
    | 10, hq => nomatch (show (none : Option Nat) = some k from hq)
    | 11, hq => nomatch (show (none : Option Nat) = some k from hq)
    | 12, hq => nomatch (show (none : Option Nat) = some k from hq)
    | 13, hq => nomatch (show (none : Option Nat) = some k from hq)
    | 14, hq => nomatch (show (none : Option Nat) = some k from hq)
    | 15, hq => nomatch (show (none : Option Nat) = some k from hq)
    | 16, hq => by
      have e : some 1 = some k := hq
      cases e
      exact ⟨C_Lean, rfl⟩
    | 17, hq => nomatch (show (none : Option Nat) = some k from hq)
    | 18, hq => by
      have e : some 2 = some k := hq
      cases e
      exact ⟨C_Cross, rfl⟩
    | 19, hq => nomatch (show (none : Option Nat) = some k from hq)
    | 20, hq => nomatch (show (none : Option Nat) = some k from hq)
    | 21, hq => nomatch (show (none : Option Nat) = some k from hq)
    | _ + 22, hq => nomatch (show (none : Option Nat) = some k from hq))
      (fun q k hq => match q, hq with
    | 0, hq => nomatch (show (none : Option Nat) = some k from hq)
    | 1, hq => nomatch (show (none : Option Nat) = some k from hq)
    | 2, hq => nomatch (show (none : Option Nat) = some k from hq)
    | 3, hq => nomatch (show (none : Option Nat) = some k from hq)
    | 4, hq => nomatch (show (none : Option Nat) = some k from hq)
    | 5, hq => nomatch (show (none : Option Nat) = some k from hq)
    | 6, hq => nomatch (show (none : Option Nat) = some k from hq)
    | 7, hq => nomatch (show (none : Option Nat) = some k from hq)
    | 8, hq => nomatch (show (none : Option Nat) = some k from hq)
    | 9, hq => nomatch (show (none : Option Nat) = some k from hq)
    | 10, hq => nomatch (show (none : Option Nat) = some k from hq)
    | 11, hq => nomatch (show (none : Option Nat) = some k from hq)
    | 12, hq => nomatch (show (none : Option Nat) = some k from hq)
    | 13, hq => nomatch (show (none : Option Nat) = some k from hq)
    | 14, hq => nomatch (show (none : Option Nat) = some k from hq)
    | 15, hq => nomatch (show (none : Option Nat) = some k from hq)
    | 16, hq => by
      have e : some 0 = some k := hq
      cases e
      exact ⟨C_Lean, rfl⟩
    | 17, hq => by
      have e : some 0 = some k := hq
      cases e
      exact ⟨C_Grow, rfl⟩
    | 18, hq => nomatch (show (none : Option Nat) = some k from hq)
    | 19, hq => nomatch (show (none : Option Nat) = some k from hq)
    | 20, hq => nomatch (show (none : Option Nat) = some k from hq)
    | 21, hq => nomatch (show (none : Option Nat) = some k from hq)
    | _ + 22, hq => nomatch (show (none : Option Nat) = some k from hq)))) k_Lean_init
  have O_Lean_init : FnOk P w K mg base (L2.CX P w) 2 (He.fAd K d17.at_) fd_Lean_init ["self", "many", "way", "side"] (spOf g 4 s_Lean_init) := fnok_weak ON_Lean_init
  have ON_long_one : FnOk P w K mg base (L2N.CX P w) 4 (He.fAd K d18.at_) fd_long_one ["mark"] (spOf g 1 s_long_one) := fn_sub (fn_defD (W := ⟨P, w, g, mg, base, 2, true⟩) (st := st_long_one) F_long_one sc_long_one (b_long_one ⟨He.free_ok X G (c.fact 24 rfl)⟩
      (makeW_of ON_Cross_init (by first | exact Nat.le_of_ble_eq_true rfl | (dsimp only; omega)) (He.mkr_ok (x := "Cross") (c.fact 35 rfl)) rfl (He.glo_ok X G (x := "Cross") (c.fact 34 rfl)) (F_Cross_init.bindsN (ps := ["self", "first", "second", "way", "side"]) fun _ _ _ _ _ _ us hl => match us, hl with | [_, _, _, _, _], _ => rfl))
      ⟨He.free_ok X G (c.fact 36 rfl)⟩
      (makeW_of ON_Grow_init (by first | exact Nat.le_of_ble_eq_true rfl | (dsimp only; omega)) (He.mkr_ok (x := "Grow") (c.fact 38 rfl)) rfl (He.glo_ok X G (x := "Grow") (c.fact 37 rfl)) (F_Grow_init.bindsN (ps := ["self", "many", "side"]) fun _ _ _ _ _ _ us hl => match us, hl with | [_, _, _], _ => rfl))
      (makeW_of ON_Lean_init (by first | exact Nat.le_of_ble_eq_true rfl | (dsimp only; omega)) (He.mkr_ok (x := "Lean") (c.fact 40 rfl)) rfl (He.glo_ok X G (x := "Lean") (c.fact 39 rfl)) (F_Lean_init.bindsN (ps := ["self", "many", "way", "side"]) fun _ _ _ _ _ _ us hl => match us, hl with | [_, _, _, _], _ => rfl)))) k_long_one
  have O_long_one : FnOk P w K mg base (L2.CX P w) 4 (He.fAd K d18.at_) fd_long_one ["mark"] (spOf g 1 s_long_one) := fnok_weak ON_long_one
  have ON_stitch : FnOk P w K mg base (L2N.CX P w) 6 (He.fAd K d19.at_) fd_stitch ["mark"] (spOf g 1 s_stitch) := fn_pg (fn_defD (W := ⟨P, w, g, mg, base, 4, true⟩) (st := st_stitch) F_stitch sc_stitch (b_stitch (rai_ok (x := "NoStitch") (q := 1) (W := (⟨P, w, g, mg, base, 4, true⟩ : Wd)) (exc_ok (x := "NoStitch") (fq_at cq 4 rfl)) (fq_at cq 5 rfl) rfl (He.glo_ok X G (x := "NoStitch") (c.fact 41 rfl)))
      ⟨He.free_ok X G (c.fact 42 rfl)⟩
      ⟨fun t b hb => kit_ty (tyT_ok hb), (fun q b hq => match q, hq with
    | 0, hq => nomatch (show (none : Option Bool) = some b from hq)
    | 1, hq => nomatch (show (none : Option Bool) = some b from hq)
    | 2, hq => nomatch (show (none : Option Bool) = some b from hq)
    | 3, hq => nomatch (show (none : Option Bool) = some b from hq)
    | 4, hq => nomatch (show (none : Option Bool) = some b from hq)
    | 5, hq => nomatch (show (none : Option Bool) = some b from hq)
    | 6, hq => nomatch (show (none : Option Bool) = some b from hq)
    | 7, hq => nomatch (show (none : Option Bool) = some b from hq)
    | 8, hq => nomatch (show (none : Option Bool) = some b from hq)
    | 9, hq => nomatch (show (none : Option Bool) = some b from hq)
    | 10, hq => nomatch (show (none : Option Bool) = some b from hq)
    | 11, hq => nomatch (show (none : Option Bool) = some b from hq)
    | 12, hq => by
      have e : some false = some b := hq
      cases e
      exact ⟨C_Stitch.cl, insty_ok (x := "Stitch") (fq_at cq 7 rfl), kitT_ok (x := "Stitch") (fq_at cq 6 rfl)⟩
    | 13, hq => by
      have e : some false = some b := hq
      cases e
      exact ⟨C_Plain.cl, insty_ok (x := "Plain") (fq_at cq 9 rfl), kitT_ok (x := "Plain") (fq_at cq 8 rfl)⟩
    | 14, hq => by
      have e : some false = some b := hq
      cases e
      exact ⟨C_Slip.cl, insty_ok (x := "Slip") (fq_at cq 11 rfl), kitT_ok (x := "Slip") (fq_at cq 10 rfl)⟩
    | 15, hq => by
      have e : some false = some b := hq
      cases e
      exact ⟨C_Over.cl, insty_ok (x := "Over") (fq_at cq 13 rfl), kitT_ok (x := "Over") (fq_at cq 12 rfl)⟩
    | 16, hq => by
      have e : some false = some b := hq
      cases e
      exact ⟨C_Lean.cl, insty_ok (x := "Lean") (fq_at cq 15 rfl), kitT_ok (x := "Lean") (fq_at cq 14 rfl)⟩
    | 17, hq => by
      have e : some false = some b := hq
      cases e
      exact ⟨C_Grow.cl, insty_ok (x := "Grow") (fq_at cq 17 rfl), kitT_ok (x := "Grow") (fq_at cq 16 rfl)⟩
    | 18, hq => by
      have e : some false = some b := hq
      cases e
      exact ⟨C_Cross.cl, insty_ok (x := "Cross") (fq_at cq 19 rfl), kitT_ok (x := "Cross") (fq_at cq 18 rfl)⟩
    | 19, hq => by
      have e : some false = some b := hq
      cases e
      exact ⟨C_Off.cl, insty_ok (x := "Off") (fq_at cq 21 rfl), kitT_ok (x := "Off") (fq_at cq 20 rfl)⟩
    | 20, hq => by
      have e : some false = some b := hq
      cases e
      exact ⟨C_Keep.cl, insty_ok (x := "Keep") (fq_at cq 23 rfl), kitT_ok (x := "Keep") (fq_at cq 22 rfl)⟩
    | 21, hq => by
      have e : some false = some b := hq
      cases e
      exact ⟨C_Fetch.cl, insty_ok (x := "Fetch") (fq_at cq 25 rfl), kitT_ok (x := "Fetch") (fq_at cq 24 rfl)⟩
    | _ + 22, hq => nomatch (show (none : Option Bool) = some b from hq))⟩
      ⟨He.free_ok X G (c.fact 23 rfl)⟩
      ⟨He.free_ok X G (c.fact 24 rfl)⟩
      (callW_of ON_short_one (by first | exact Nat.le_of_ble_eq_true rfl | (dsimp only; omega)) (He.glo_ok X G (x := "short_one") (c.fact 43 rfl)) F_short_one.kp (F_short_one.bindsN (ps := ["mark"]) fun _ _ _ _ _ _ us hl => match us, hl with | [_], _ => rfl))
      (callW_of ON_long_one (by first | exact Nat.le_of_ble_eq_true rfl | (dsimp only; omega)) (He.glo_ok X G (x := "long_one") (c.fact 44 rfl)) F_long_one.kp (F_long_one.bindsN (ps := ["mark"]) fun _ _ _ _ _ _ us hl => match us, hl with | [_], _ => rfl)))) k_stitch
  have O_stitch : FnOk P w K mg base (L2.CX P w) 6 (He.fAd K d19.at_) fd_stitch ["mark"] (spOf g 1 s_stitch) := fnok_weak ON_stitch
  have O_read_mark : FnOk P w K mg base (L2.CX P w) 8 (He.fAd K d20.at_) fd_read_mark ["mark"] (spOf g 1 s_read_mark) := fn_sub (fn_defY (W := ⟨P, w, g, mg, base, 6, false⟩) (st := st_read_mark) rfl F_read_mark sc_read_mark (b_read_mark (by rfl)
      (callW_of ON_stitch (by first | exact Nat.le_of_ble_eq_true rfl | (dsimp only; omega)) (He.glo_ok X G (x := "stitch") (c.fact 45 rfl)) F_stitch.kp (F_stitch.bindsN (ps := ["mark"]) fun _ _ _ _ _ _ us hl => match us, hl with | [_], _ => rfl))
      (rai_ok (x := "NoChart") (q := 7) (W := (⟨P, w, g, mg, base, 6, false⟩ : Wd)) (exc_ok (x := "NoChart") (fq_at cq 26 rfl)) (fq_at cq 27 rfl) rfl (He.glo_ok X G (x := "NoChart") (c.fact 46 rfl)))
      ⟨_, He.glo_ok X G (x := "NoStitch") (c.fact 41 rfl), (fun q b hq => match q, hq with
    | 0, hq => nomatch (show (none : Option Bool) = some b from hq)
    | 1, hq => by
      have e : some true = some b := hq
      cases e
      exact exm_ok (x := "NoStitch") (y := "NoStitch") (fq_at cq 28 rfl)
    | 2, hq => nomatch (show (none : Option Bool) = some b from hq)
    | 3, hq => nomatch (show (none : Option Bool) = some b from hq)
    | 4, hq => nomatch (show (none : Option Bool) = some b from hq)
    | 5, hq => nomatch (show (none : Option Bool) = some b from hq)
    | 6, hq => nomatch (show (none : Option Bool) = some b from hq)
    | 7, hq => by
      have e : some false = some b := hq
      cases e
      exact exm_ok (x := "NoChart") (y := "NoStitch") (fq_at cq 29 rfl)
    | 8, hq => nomatch (show (none : Option Bool) = some b from hq)
    | 9, hq => nomatch (show (none : Option Bool) = some b from hq)
    | 10, hq => nomatch (show (none : Option Bool) = some b from hq)
    | 11, hq => nomatch (show (none : Option Bool) = some b from hq)
    | 12, hq => nomatch (show (none : Option Bool) = some b from hq)
    | 13, hq => nomatch (show (none : Option Bool) = some b from hq)
    | 14, hq => nomatch (show (none : Option Bool) = some b from hq)
    | 15, hq => nomatch (show (none : Option Bool) = some b from hq)
    | 16, hq => nomatch (show (none : Option Bool) = some b from hq)
    | 17, hq => nomatch (show (none : Option Bool) = some b from hq)
    | 18, hq => nomatch (show (none : Option Bool) = some b from hq)
    | 19, hq => nomatch (show (none : Option Bool) = some b from hq)
    | 20, hq => nomatch (show (none : Option Bool) = some b from hq)
    | 21, hq => nomatch (show (none : Option Bool) = some b from hq)
    | _ + 22, hq => nomatch (show (none : Option Bool) = some b from hq))⟩)) k_read_mark
  have O_read_row : FnOk P w K mg base (L2.CX P w) 10 (He.fAd K d21.at_) fd_read_row ["text"] (spOf g 1 s_read_row) := fn_sub (fn_defD (W := ⟨P, w, g, mg, base, 8, false⟩) (st := st_read_row) F_read_row sc_read_row (b_read_row ⟨He.free_ok X G (c.fact 47 rfl)⟩
      (callW_of O_read_mark (by first | exact Nat.le_of_ble_eq_true rfl | (dsimp only; omega)) (He.glo_ok X G (x := "read_mark") (c.fact 48 rfl)) F_read_mark.kp (F_read_mark.bindsN (ps := ["mark"]) fun _ _ _ _ _ _ us hl => match us, hl with | [_], _ => rfl))
      ⟨He.free_ok X G (c.fact 42 rfl)⟩
      ⟨fun t b hb => kit_ty (tyT_ok hb), (fun q b hq => match q, hq with
    | 0, hq => nomatch (show (none : Option Bool) = some b from hq)
    | 1, hq => nomatch (show (none : Option Bool) = some b from hq)
    | 2, hq => nomatch (show (none : Option Bool) = some b from hq)
    | 3, hq => nomatch (show (none : Option Bool) = some b from hq)
    | 4, hq => nomatch (show (none : Option Bool) = some b from hq)
    | 5, hq => nomatch (show (none : Option Bool) = some b from hq)
    | 6, hq => nomatch (show (none : Option Bool) = some b from hq)
    | 7, hq => nomatch (show (none : Option Bool) = some b from hq)
    | 8, hq => nomatch (show (none : Option Bool) = some b from hq)
    | 9, hq => nomatch (show (none : Option Bool) = some b from hq)
    | 10, hq => nomatch (show (none : Option Bool) = some b from hq)
    | 11, hq => nomatch (show (none : Option Bool) = some b from hq)
    | 12, hq => by
      have e : some false = some b := hq
      cases e
      exact ⟨C_Stitch.cl, insty_ok (x := "Stitch") (fq_at cq 7 rfl), kitT_ok (x := "Stitch") (fq_at cq 6 rfl)⟩
    | 13, hq => by
      have e : some false = some b := hq
      cases e
      exact ⟨C_Plain.cl, insty_ok (x := "Plain") (fq_at cq 9 rfl), kitT_ok (x := "Plain") (fq_at cq 8 rfl)⟩
    | 14, hq => by
      have e : some false = some b := hq
      cases e
      exact ⟨C_Slip.cl, insty_ok (x := "Slip") (fq_at cq 11 rfl), kitT_ok (x := "Slip") (fq_at cq 10 rfl)⟩
    | 15, hq => by
      have e : some false = some b := hq
      cases e
      exact ⟨C_Over.cl, insty_ok (x := "Over") (fq_at cq 13 rfl), kitT_ok (x := "Over") (fq_at cq 12 rfl)⟩
    | 16, hq => by
      have e : some false = some b := hq
      cases e
      exact ⟨C_Lean.cl, insty_ok (x := "Lean") (fq_at cq 15 rfl), kitT_ok (x := "Lean") (fq_at cq 14 rfl)⟩
    | 17, hq => by
      have e : some false = some b := hq
      cases e
      exact ⟨C_Grow.cl, insty_ok (x := "Grow") (fq_at cq 17 rfl), kitT_ok (x := "Grow") (fq_at cq 16 rfl)⟩
    | 18, hq => by
      have e : some false = some b := hq
      cases e
      exact ⟨C_Cross.cl, insty_ok (x := "Cross") (fq_at cq 19 rfl), kitT_ok (x := "Cross") (fq_at cq 18 rfl)⟩
    | 19, hq => by
      have e : some false = some b := hq
      cases e
      exact ⟨C_Off.cl, insty_ok (x := "Off") (fq_at cq 21 rfl), kitT_ok (x := "Off") (fq_at cq 20 rfl)⟩
    | 20, hq => by
      have e : some false = some b := hq
      cases e
      exact ⟨C_Keep.cl, insty_ok (x := "Keep") (fq_at cq 23 rfl), kitT_ok (x := "Keep") (fq_at cq 22 rfl)⟩
    | 21, hq => by
      have e : some false = some b := hq
      cases e
      exact ⟨C_Fetch.cl, insty_ok (x := "Fetch") (fq_at cq 25 rfl), kitT_ok (x := "Fetch") (fq_at cq 24 rfl)⟩
    | _ + 22, hq => nomatch (show (none : Option Bool) = some b from hq))⟩
      ⟨He.free_ok X G (c.fact 23 rfl)⟩
      (rai_ok (x := "NoChart") (q := 7) (W := (⟨P, w, g, mg, base, 8, false⟩ : Wd)) (exc_ok (x := "NoChart") (fq_at cq 26 rfl)) (fq_at cq 27 rfl) rfl (He.glo_ok X G (x := "NoChart") (c.fact 46 rfl))))) k_read_row
  have O_read_cast : FnOk P w K mg base (L2.CX P w) 2 (He.fAd K d22.at_) fd_read_cast ["text"] (spOf g 1 s_read_cast) := fn_sub (fn_defD (W := ⟨P, w, g, mg, base, 0, false⟩) (st := st_read_cast) F_read_cast sc_read_cast (b_read_cast ⟨He.free_ok X G (c.fact 36 rfl)⟩
      ⟨He.free_ok X G (c.fact 24 rfl)⟩
      (rai_ok (x := "NoChart") (q := 7) (W := (⟨P, w, g, mg, base, 0, false⟩ : Wd)) (exc_ok (x := "NoChart") (fq_at cq 26 rfl)) (fq_at cq 27 rfl) rfl (He.glo_ok X G (x := "NoChart") (c.fact 46 rfl)))
      (glb_of (const_ok X G (fq_at cq 30 rfl)) (by first | exact .inl rfl | exact .inr rfl))
      ⟨He.free_ok X G (c.fact 42 rfl)⟩
      ⟨fun t b hb => kit_ty (tyT_ok hb), (fun q b hq => match q, hq with
    | 0, hq => nomatch (show (none : Option Bool) = some b from hq)
    | 1, hq => nomatch (show (none : Option Bool) = some b from hq)
    | 2, hq => nomatch (show (none : Option Bool) = some b from hq)
    | 3, hq => nomatch (show (none : Option Bool) = some b from hq)
    | 4, hq => nomatch (show (none : Option Bool) = some b from hq)
    | 5, hq => nomatch (show (none : Option Bool) = some b from hq)
    | 6, hq => nomatch (show (none : Option Bool) = some b from hq)
    | 7, hq => nomatch (show (none : Option Bool) = some b from hq)
    | 8, hq => nomatch (show (none : Option Bool) = some b from hq)
    | 9, hq => nomatch (show (none : Option Bool) = some b from hq)
    | 10, hq => nomatch (show (none : Option Bool) = some b from hq)
    | 11, hq => nomatch (show (none : Option Bool) = some b from hq)
    | 12, hq => by
      have e : some false = some b := hq
      cases e
      exact ⟨C_Stitch.cl, insty_ok (x := "Stitch") (fq_at cq 7 rfl), kitT_ok (x := "Stitch") (fq_at cq 6 rfl)⟩
    | 13, hq => by
      have e : some false = some b := hq
      cases e
      exact ⟨C_Plain.cl, insty_ok (x := "Plain") (fq_at cq 9 rfl), kitT_ok (x := "Plain") (fq_at cq 8 rfl)⟩
    | 14, hq => by
      have e : some false = some b := hq
      cases e
      exact ⟨C_Slip.cl, insty_ok (x := "Slip") (fq_at cq 11 rfl), kitT_ok (x := "Slip") (fq_at cq 10 rfl)⟩
    | 15, hq => by
      have e : some false = some b := hq
      cases e
      exact ⟨C_Over.cl, insty_ok (x := "Over") (fq_at cq 13 rfl), kitT_ok (x := "Over") (fq_at cq 12 rfl)⟩
    | 16, hq => by
      have e : some false = some b := hq
      cases e
      exact ⟨C_Lean.cl, insty_ok (x := "Lean") (fq_at cq 15 rfl), kitT_ok (x := "Lean") (fq_at cq 14 rfl)⟩
    | 17, hq => by
      have e : some false = some b := hq
      cases e
      exact ⟨C_Grow.cl, insty_ok (x := "Grow") (fq_at cq 17 rfl), kitT_ok (x := "Grow") (fq_at cq 16 rfl)⟩
    | 18, hq => by
      have e : some false = some b := hq
      cases e
      exact ⟨C_Cross.cl, insty_ok (x := "Cross") (fq_at cq 19 rfl), kitT_ok (x := "Cross") (fq_at cq 18 rfl)⟩
    | 19, hq => by
      have e : some false = some b := hq
      cases e
      exact ⟨C_Off.cl, insty_ok (x := "Off") (fq_at cq 21 rfl), kitT_ok (x := "Off") (fq_at cq 20 rfl)⟩
    | 20, hq => by
      have e : some false = some b := hq
      cases e
      exact ⟨C_Keep.cl, insty_ok (x := "Keep") (fq_at cq 23 rfl), kitT_ok (x := "Keep") (fq_at cq 22 rfl)⟩
    | 21, hq => by
      have e : some false = some b := hq
      cases e
      exact ⟨C_Fetch.cl, insty_ok (x := "Fetch") (fq_at cq 25 rfl), kitT_ok (x := "Fetch") (fq_at cq 24 rfl)⟩
    | _ + 22, hq => nomatch (show (none : Option Bool) = some b from hq))⟩
      ⟨He.free_ok X G (c.fact 23 rfl)⟩)) k_read_cast
  have O_read_chart : FnOk P w K mg base (L2.CX P w) 12 (He.fAd K d23.at_) fd_read_chart ["texts"] (spOf g 1 s_read_chart) := fn_sub (fn_defD (W := ⟨P, w, g, mg, base, 10, false⟩) (st := st_read_chart) F_read_chart sc_read_chart (b_read_chart ⟨He.free_ok X G (c.fact 47 rfl)⟩
      (callW_of O_read_row (by first | exact Nat.le_of_ble_eq_true rfl | (dsimp only; omega)) (He.glo_ok X G (x := "read_row") (c.fact 49 rfl)) F_read_row.kp (F_read_row.bindsN (ps := ["text"]) fun _ _ _ _ _ _ us hl => match us, hl with | [_], _ => rfl))
      (callW_of O_read_cast (by first | exact Nat.le_of_ble_eq_true rfl | (dsimp only; omega)) (He.glo_ok X G (x := "read_cast") (c.fact 50 rfl)) F_read_cast.kp (F_read_cast.bindsN (ps := ["text"]) fun _ _ _ _ _ _ us hl => match us, hl with | [_], _ => rfl))
      ⟨He.free_ok X G (c.fact 42 rfl)⟩
      ⟨fun t b hb => kit_ty (tyT_ok hb), (fun q b hq => match q, hq with
    | 0, hq => nomatch (show (none : Option Bool) = some b from hq)
    | 1, hq => nomatch (show (none : Option Bool) = some b from hq)
    | 2, hq => nomatch (show (none : Option Bool) = some b from hq)
    | 3, hq => nomatch (show (none : Option Bool) = some b from hq)
    | 4, hq => nomatch (show (none : Option Bool) = some b from hq)
    | 5, hq => nomatch (show (none : Option Bool) = some b from hq)
    | 6, hq => nomatch (show (none : Option Bool) = some b from hq)
    | 7, hq => nomatch (show (none : Option Bool) = some b from hq)
    | 8, hq => nomatch (show (none : Option Bool) = some b from hq)
    | 9, hq => nomatch (show (none : Option Bool) = some b from hq)
    | 10, hq => nomatch (show (none : Option Bool) = some b from hq)
    | 11, hq => nomatch (show (none : Option Bool) = some b from hq)
    | 12, hq => by
      have e : some false = some b := hq
      cases e
      exact ⟨C_Stitch.cl, insty_ok (x := "Stitch") (fq_at cq 7 rfl), kitT_ok (x := "Stitch") (fq_at cq 31 rfl)⟩
    | 13, hq => by
      have e : some false = some b := hq
      cases e
      exact ⟨C_Plain.cl, insty_ok (x := "Plain") (fq_at cq 9 rfl), kitT_ok (x := "Plain") (fq_at cq 32 rfl)⟩
    | 14, hq => by
      have e : some false = some b := hq
      cases e
      exact ⟨C_Slip.cl, insty_ok (x := "Slip") (fq_at cq 11 rfl), kitT_ok (x := "Slip") (fq_at cq 33 rfl)⟩
    | 15, hq => by
      have e : some false = some b := hq
      cases e
      exact ⟨C_Over.cl, insty_ok (x := "Over") (fq_at cq 13 rfl), kitT_ok (x := "Over") (fq_at cq 34 rfl)⟩
    | 16, hq => by
      have e : some false = some b := hq
      cases e
      exact ⟨C_Lean.cl, insty_ok (x := "Lean") (fq_at cq 15 rfl), kitT_ok (x := "Lean") (fq_at cq 35 rfl)⟩
    | 17, hq => by
      have e : some false = some b := hq
      cases e
      exact ⟨C_Grow.cl, insty_ok (x := "Grow") (fq_at cq 17 rfl), kitT_ok (x := "Grow") (fq_at cq 36 rfl)⟩
    | 18, hq => by
      have e : some false = some b := hq
      cases e
      exact ⟨C_Cross.cl, insty_ok (x := "Cross") (fq_at cq 19 rfl), kitT_ok (x := "Cross") (fq_at cq 37 rfl)⟩
    | 19, hq => by
      have e : some false = some b := hq
      cases e
      exact ⟨C_Off.cl, insty_ok (x := "Off") (fq_at cq 21 rfl), kitT_ok (x := "Off") (fq_at cq 38 rfl)⟩
    | 20, hq => by
      have e : some false = some b := hq
      cases e
      exact ⟨C_Keep.cl, insty_ok (x := "Keep") (fq_at cq 23 rfl), kitT_ok (x := "Keep") (fq_at cq 39 rfl)⟩
    | 21, hq => by
      have e : some false = some b := hq
      cases e
      exact ⟨C_Fetch.cl, insty_ok (x := "Fetch") (fq_at cq 25 rfl), kitT_ok (x := "Fetch") (fq_at cq 40 rfl)⟩
    | _ + 22, hq => nomatch (show (none : Option Bool) = some b from hq))⟩
      ⟨He.free_ok X G (c.fact 51 rfl)⟩
      (rai_ok (x := "NoChart") (q := 7) (W := (⟨P, w, g, mg, base, 10, false⟩ : Wd)) (exc_ok (x := "NoChart") (fq_at cq 26 rfl)) (fq_at cq 27 rfl) rfl (He.glo_ok X G (x := "NoChart") (c.fact 46 rfl))))) k_read_chart
  have O__law_read : FnOk P w K mg base (L2.CX P w) 14 (He.fAd K d24.at_) fd__law_read ["_law_texts_here", "_law_cast", "_law_rows_here"] (spOf g 3 s__law_read) := fn_sub (fn_defD (W := ⟨P, w, g, mg, base, 12, false⟩) (st := st__law_read) F__law_read sc__law_read (b__law_read ⟨He.free_ok X G (c.fact 52 rfl)⟩
      ⟨[], [], .nil, fun _ _ _ => .nil, fun q φ hq => match q, hq with
    | 0, hq => nomatch (show (none : Option (List D → Sto → Rs D)) = some φ from hq)
    | 1, hq => nomatch (show (none : Option (List D → Sto → Rs D)) = some φ from hq)
    | 2, hq => nomatch (show (none : Option (List D → Sto → Rs D)) = some φ from hq)
    | 3, hq => nomatch (show (none : Option (List D → Sto → Rs D)) = some φ from hq)
    | 4, hq => nomatch (show (none : Option (List D → Sto → Rs D)) = some φ from hq)
    | 5, hq => nomatch (show (none : Option (List D → Sto → Rs D)) = some φ from hq)
    | 6, hq => nomatch (show (none : Option (List D → Sto → Rs D)) = some φ from hq)
    | 7, hq => nomatch (show (none : Option (List D → Sto → Rs D)) = some φ from hq)
    | 8, hq => nomatch (show (none : Option (List D → Sto → Rs D)) = some φ from hq)
    | 9, hq => nomatch (show (none : Option (List D → Sto → Rs D)) = some φ from hq)
    | 10, hq => nomatch (show (none : Option (List D → Sto → Rs D)) = some φ from hq)
    | 11, hq => nomatch (show (none : Option (List D → Sto → Rs D)) = some φ from hq)
    | 12, hq => by
      have e : some s_Stitch_mark = some φ := hq
      cases e
      exact ⟨C_Stitch, by show ("mark" : Str) ∉ ([] : List Str); decide +kernel, _, fd_Stitch_mark, _, He.meth_ok (x := "Stitch") (m := "mark") (c.fact 53 rfl), O_Stitch_mark.mono (by first | exact Nat.le_of_ble_eq_true rfl | (dsimp only; omega)), F_Stitch_mark.bindsN (ps := ["self"]) fun _ _ _ _ _ _ us hl => match us, hl with | [_], _ => rfl⟩
    | 13, hq => by
      have e : some s_Plain_mark = some φ := hq
      cases e
      exact ⟨C_Plain, by show ("mark" : Str) ∉ (["side"] : List Str); decide +kernel, _, fd_Plain_mark, _, He.meth_ok (x := "Plain") (m := "mark") (c.fact 54 rfl), O_Plain_mark.mono (by first | exact Nat.le_of_ble_eq_true rfl | (dsimp only; omega)), F_Plain_mark.bindsN (ps := ["self"]) fun _ _ _ _ _ _ us hl => match us, hl with | [_], _ => rfl⟩
    | 14, hq => by
      have e : some s_Slip_mark = some φ := hq
      cases e
      exact ⟨C_Slip, by show ("mark" : Str) ∉ ([] : List Str); decide +kernel, _, fd_Slip_mark, _, He.meth_ok (x := "Slip") (m := "mark") (c.fact 55 rfl), O_Slip_mark.mono (by first | exact Nat.le_of_ble_eq_true rfl | (dsimp only; omega)), F_Slip_mark.bindsN (ps := ["self"]) fun _ _ _ _ _ _ us hl => match us, hl with | [_], _ => rfl⟩
    | 15, hq => by
      have e : some s_Over_mark = some φ := hq
      cases e
      exact ⟨C_Over, by show ("mark" : Str) ∉ ([] : List Str); decide +kernel, _, fd_Over_mark, _, He.meth_ok (x := "Over") (m := "mark") (c.fact 56 rfl), O_Over_mark.mono (by first | exact Nat.le_of_ble_eq_true rfl | (dsimp only; omega)), F_Over_mark.bindsN (ps := ["self"]) fun _ _ _ _ _ _ us hl => match us, hl with | [_], _ => rfl⟩
    | 16, hq => by
      have e : some s_Lean_mark = some φ := hq
      cases e
      exact ⟨C_Lean, by show ("mark" : Str) ∉ (["many", "way", "side"] : List Str); decide +kernel, _, fd_Lean_mark, _, He.meth_ok (x := "Lean") (m := "mark") (c.fact 57 rfl), O_Lean_mark.mono (by first | exact Nat.le_of_ble_eq_true rfl | (dsimp only; omega)), F_Lean_mark.bindsN (ps := ["self"]) fun _ _ _ _ _ _ us hl => match us, hl with | [_], _ => rfl⟩
    | 17, hq => by
      have e : some s_Grow_mark = some φ := hq
      cases e
      exact ⟨C_Grow, by show ("mark" : Str) ∉ (["many", "side"] : List Str); decide +kernel, _, fd_Grow_mark, _, He.meth_ok (x := "Grow") (m := "mark") (c.fact 58 rfl), O_Grow_mark.mono (by first | exact Nat.le_of_ble_eq_true rfl | (dsimp only; omega)), F_Grow_mark.bindsN (ps := ["self"]) fun _ _ _ _ _ _ us hl => match us, hl with | [_], _ => rfl⟩
    | 18, hq => by
      have e : some s_Cross_mark = some φ := hq
      cases e
      exact ⟨C_Cross, by show ("mark" : Str) ∉ (["first", "second", "way", "side"] : List Str); decide +kernel, _, fd_Cross_mark, _, He.meth_ok (x := "Cross") (m := "mark") (c.fact 59 rfl), O_Cross_mark.mono (by first | exact Nat.le_of_ble_eq_true rfl | (dsimp only; omega)), F_Cross_mark.bindsN (ps := ["self"]) fun _ _ _ _ _ _ us hl => match us, hl with | [_], _ => rfl⟩
    | 19, hq => by
      have e : some s_Off_mark = some φ := hq
      cases e
      exact ⟨C_Off, by show ("mark" : Str) ∉ ([] : List Str); decide +kernel, _, fd_Off_mark, _, He.meth_ok (x := "Off") (m := "mark") (c.fact 60 rfl), O_Off_mark.mono (by first | exact Nat.le_of_ble_eq_true rfl | (dsimp only; omega)), F_Off_mark.bindsN (ps := ["self"]) fun _ _ _ _ _ _ us hl => match us, hl with | [_], _ => rfl⟩
    | 20, hq => by
      have e : some s_Keep_mark = some φ := hq
      cases e
      exact ⟨C_Keep, by show ("mark" : Str) ∉ (["keeper"] : List Str); decide +kernel, _, fd_Keep_mark, _, He.meth_ok (x := "Keep") (m := "mark") (c.fact 61 rfl), O_Keep_mark.mono (by first | exact Nat.le_of_ble_eq_true rfl | (dsimp only; omega)), F_Keep_mark.bindsN (ps := ["self"]) fun _ _ _ _ _ _ us hl => match us, hl with | [_], _ => rfl⟩
    | 21, hq => by
      have e : some s_Fetch_mark = some φ := hq
      cases e
      exact ⟨C_Fetch, by show ("mark" : Str) ∉ (["keeper"] : List Str); decide +kernel, _, fd_Fetch_mark, _, He.meth_ok (x := "Fetch") (m := "mark") (c.fact 62 rfl), O_Fetch_mark.mono (by first | exact Nat.le_of_ble_eq_true rfl | (dsimp only; omega)), F_Fetch_mark.bindsN (ps := ["self"]) fun _ _ _ _ _ _ us hl => match us, hl with | [_], _ => rfl⟩
    | _ + 22, hq => nomatch (show (none : Option (List D → Sto → Rs D)) = some φ from hq)⟩
      ⟨He.free_ok X G (c.fact 42 rfl)⟩
      ⟨_, He.glo_ok X G (x := "Stitch") (c.fact 63 rfl), ⟨tyF_ok (K := K) (u := .ref (He.ga K "Stitch")) ⟨tyk_ok (y := "Stitch") (fq_at cq 51 rfl), tyk_ok (y := "Stitch") (fq_at cq 52 rfl), tyk_ok (y := "Stitch") (fq_at cq 53 rfl), tyk_ok (y := "Stitch") (fq_at cq 54 rfl), tyk_ok (y := "Stitch") (fq_at cq 55 rfl), tyk_ok (y := "Stitch") (fq_at cq 56 rfl), tyk_ok (y := "Stitch") (fq_at cq 57 rfl)⟩, (fun q b hq => match q, hq with
    | 0, hq => nomatch (show (none : Option Bool) = some b from hq)
    | 1, hq => nomatch (show (none : Option Bool) = some b from hq)
    | 2, hq => nomatch (show (none : Option Bool) = some b from hq)
    | 3, hq => nomatch (show (none : Option Bool) = some b from hq)
    | 4, hq => nomatch (show (none : Option Bool) = some b from hq)
    | 5, hq => nomatch (show (none : Option Bool) = some b from hq)
    | 6, hq => nomatch (show (none : Option Bool) = some b from hq)
    | 7, hq => nomatch (show (none : Option Bool) = some b from hq)
    | 8, hq => nomatch (show (none : Option Bool) = some b from hq)
    | 9, hq => nomatch (show (none : Option Bool) = some b from hq)
    | 10, hq => nomatch (show (none : Option Bool) = some b from hq)
    | 11, hq => nomatch (show (none : Option Bool) = some b from hq)
    | 12, hq => by
      have e : some true = some b := hq
      cases e
      exact ⟨C_Stitch.cl, insty_ok (x := "Stitch") (fq_at cq 7 rfl), kitC_ok (x := "Stitch") (y := "Stitch") (fq_at cq 41 rfl)⟩
    | 13, hq => by
      have e : some true = some b := hq
      cases e
      exact ⟨C_Plain.cl, insty_ok (x := "Plain") (fq_at cq 9 rfl), kitC_ok (x := "Plain") (y := "Stitch") (fq_at cq 42 rfl)⟩
    | 14, hq => by
      have e : some true = some b := hq
      cases e
      exact ⟨C_Slip.cl, insty_ok (x := "Slip") (fq_at cq 11 rfl), kitC_ok (x := "Slip") (y := "Stitch") (fq_at cq 43 rfl)⟩
    | 15, hq => by
      have e : some true = some b := hq
      cases e
      exact ⟨C_Over.cl, insty_ok (x := "Over") (fq_at cq 13 rfl), kitC_ok (x := "Over") (y := "Stitch") (fq_at cq 44 rfl)⟩
    | 16, hq => by
      have e : some true = some b := hq
      cases e
      exact ⟨C_Lean.cl, insty_ok (x := "Lean") (fq_at cq 15 rfl), kitC_ok (x := "Lean") (y := "Stitch") (fq_at cq 45 rfl)⟩
    | 17, hq => by
      have e : some true = some b := hq
      cases e
      exact ⟨C_Grow.cl, insty_ok (x := "Grow") (fq_at cq 17 rfl), kitC_ok (x := "Grow") (y := "Stitch") (fq_at cq 46 rfl)⟩
    | 18, hq => by
      have e : some true = some b := hq
      cases e
      exact ⟨C_Cross.cl, insty_ok (x := "Cross") (fq_at cq 19 rfl), kitC_ok (x := "Cross") (y := "Stitch") (fq_at cq 47 rfl)⟩
    | 19, hq => by
      have e : some true = some b := hq
      cases e
      exact ⟨C_Off.cl, insty_ok (x := "Off") (fq_at cq 21 rfl), kitC_ok (x := "Off") (y := "Stitch") (fq_at cq 48 rfl)⟩
    | 20, hq => by
      have e : some true = some b := hq
      cases e
      exact ⟨C_Keep.cl, insty_ok (x := "Keep") (fq_at cq 23 rfl), kitC_ok (x := "Keep") (y := "Stitch") (fq_at cq 49 rfl)⟩
    | 21, hq => by
      have e : some true = some b := hq
      cases e
      exact ⟨C_Fetch.cl, insty_ok (x := "Fetch") (fq_at cq 25 rfl), kitC_ok (x := "Fetch") (y := "Stitch") (fq_at cq 50 rfl)⟩
    | _ + 22, hq => nomatch (show (none : Option Bool) = some b from hq))⟩⟩
      ⟨fun t b hb => kit_ty (tyT_ok hb), (fun q b hq => match q, hq with
    | 0, hq => nomatch (show (none : Option Bool) = some b from hq)
    | 1, hq => nomatch (show (none : Option Bool) = some b from hq)
    | 2, hq => nomatch (show (none : Option Bool) = some b from hq)
    | 3, hq => nomatch (show (none : Option Bool) = some b from hq)
    | 4, hq => nomatch (show (none : Option Bool) = some b from hq)
    | 5, hq => nomatch (show (none : Option Bool) = some b from hq)
    | 6, hq => nomatch (show (none : Option Bool) = some b from hq)
    | 7, hq => nomatch (show (none : Option Bool) = some b from hq)
    | 8, hq => nomatch (show (none : Option Bool) = some b from hq)
    | 9, hq => nomatch (show (none : Option Bool) = some b from hq)
    | 10, hq => nomatch (show (none : Option Bool) = some b from hq)
    | 11, hq => nomatch (show (none : Option Bool) = some b from hq)
    | 12, hq => by
      have e : some false = some b := hq
      cases e
      exact ⟨C_Stitch.cl, insty_ok (x := "Stitch") (fq_at cq 7 rfl), kitT_ok (x := "Stitch") (fq_at cq 31 rfl)⟩
    | 13, hq => by
      have e : some false = some b := hq
      cases e
      exact ⟨C_Plain.cl, insty_ok (x := "Plain") (fq_at cq 9 rfl), kitT_ok (x := "Plain") (fq_at cq 32 rfl)⟩
    | 14, hq => by
      have e : some false = some b := hq
      cases e
      exact ⟨C_Slip.cl, insty_ok (x := "Slip") (fq_at cq 11 rfl), kitT_ok (x := "Slip") (fq_at cq 33 rfl)⟩
    | 15, hq => by
      have e : some false = some b := hq
      cases e
      exact ⟨C_Over.cl, insty_ok (x := "Over") (fq_at cq 13 rfl), kitT_ok (x := "Over") (fq_at cq 34 rfl)⟩
    | 16, hq => by
      have e : some false = some b := hq
      cases e
      exact ⟨C_Lean.cl, insty_ok (x := "Lean") (fq_at cq 15 rfl), kitT_ok (x := "Lean") (fq_at cq 35 rfl)⟩
    | 17, hq => by
      have e : some false = some b := hq
      cases e
      exact ⟨C_Grow.cl, insty_ok (x := "Grow") (fq_at cq 17 rfl), kitT_ok (x := "Grow") (fq_at cq 36 rfl)⟩
    | 18, hq => by
      have e : some false = some b := hq
      cases e
      exact ⟨C_Cross.cl, insty_ok (x := "Cross") (fq_at cq 19 rfl), kitT_ok (x := "Cross") (fq_at cq 37 rfl)⟩
    | 19, hq => by
      have e : some false = some b := hq
      cases e
      exact ⟨C_Off.cl, insty_ok (x := "Off") (fq_at cq 21 rfl), kitT_ok (x := "Off") (fq_at cq 38 rfl)⟩
    | 20, hq => by
      have e : some false = some b := hq
      cases e
      exact ⟨C_Keep.cl, insty_ok (x := "Keep") (fq_at cq 23 rfl), kitT_ok (x := "Keep") (fq_at cq 39 rfl)⟩
    | 21, hq => by
      have e : some false = some b := hq
      cases e
      exact ⟨C_Fetch.cl, insty_ok (x := "Fetch") (fq_at cq 25 rfl), kitT_ok (x := "Fetch") (fq_at cq 40 rfl)⟩
    | _ + 22, hq => nomatch (show (none : Option Bool) = some b from hq))⟩
      ⟨He.free_ok X G (c.fact 51 rfl)⟩
      ⟨He.free_ok X G (c.fact 24 rfl)⟩
      ⟨fun t b hb => kit_ty (tyT_ok hb), (fun q b hq => match q, hq with
    | 0, hq => nomatch (show (none : Option Bool) = some b from hq)
    | 1, hq => nomatch (show (none : Option Bool) = some b from hq)
    | 2, hq => nomatch (show (none : Option Bool) = some b from hq)
    | 3, hq => nomatch (show (none : Option Bool) = some b from hq)
    | 4, hq => nomatch (show (none : Option Bool) = some b from hq)
    | 5, hq => nomatch (show (none : Option Bool) = some b from hq)
    | 6, hq => nomatch (show (none : Option Bool) = some b from hq)
    | 7, hq => nomatch (show (none : Option Bool) = some b from hq)
    | 8, hq => nomatch (show (none : Option Bool) = some b from hq)
    | 9, hq => nomatch (show (none : Option Bool) = some b from hq)
    | 10, hq => nomatch (show (none : Option Bool) = some b from hq)
    | 11, hq => nomatch (show (none : Option Bool) = some b from hq)
    | 12, hq => by
      have e : some false = some b := hq
      cases e
      exact ⟨C_Stitch.cl, insty_ok (x := "Stitch") (fq_at cq 7 rfl), kitT_ok (x := "Stitch") (fq_at cq 58 rfl)⟩
    | 13, hq => by
      have e : some false = some b := hq
      cases e
      exact ⟨C_Plain.cl, insty_ok (x := "Plain") (fq_at cq 9 rfl), kitT_ok (x := "Plain") (fq_at cq 59 rfl)⟩
    | 14, hq => by
      have e : some false = some b := hq
      cases e
      exact ⟨C_Slip.cl, insty_ok (x := "Slip") (fq_at cq 11 rfl), kitT_ok (x := "Slip") (fq_at cq 60 rfl)⟩
    | 15, hq => by
      have e : some false = some b := hq
      cases e
      exact ⟨C_Over.cl, insty_ok (x := "Over") (fq_at cq 13 rfl), kitT_ok (x := "Over") (fq_at cq 61 rfl)⟩
    | 16, hq => by
      have e : some false = some b := hq
      cases e
      exact ⟨C_Lean.cl, insty_ok (x := "Lean") (fq_at cq 15 rfl), kitT_ok (x := "Lean") (fq_at cq 62 rfl)⟩
    | 17, hq => by
      have e : some false = some b := hq
      cases e
      exact ⟨C_Grow.cl, insty_ok (x := "Grow") (fq_at cq 17 rfl), kitT_ok (x := "Grow") (fq_at cq 63 rfl)⟩
    | 18, hq => by
      have e : some false = some b := hq
      cases e
      exact ⟨C_Cross.cl, insty_ok (x := "Cross") (fq_at cq 19 rfl), kitT_ok (x := "Cross") (fq_at cq 64 rfl)⟩
    | 19, hq => by
      have e : some false = some b := hq
      cases e
      exact ⟨C_Off.cl, insty_ok (x := "Off") (fq_at cq 21 rfl), kitT_ok (x := "Off") (fq_at cq 65 rfl)⟩
    | 20, hq => by
      have e : some false = some b := hq
      cases e
      exact ⟨C_Keep.cl, insty_ok (x := "Keep") (fq_at cq 23 rfl), kitT_ok (x := "Keep") (fq_at cq 66 rfl)⟩
    | 21, hq => by
      have e : some false = some b := hq
      cases e
      exact ⟨C_Fetch.cl, insty_ok (x := "Fetch") (fq_at cq 25 rfl), kitT_ok (x := "Fetch") (fq_at cq 67 rfl)⟩
    | _ + 22, hq => nomatch (show (none : Option Bool) = some b from hq))⟩
      ⟨He.free_ok X G (c.fact 36 rfl)⟩
      ⟨fun t b hb => kit_ty (tyT_ok hb), (fun q b hq => match q, hq with
    | 0, hq => nomatch (show (none : Option Bool) = some b from hq)
    | 1, hq => nomatch (show (none : Option Bool) = some b from hq)
    | 2, hq => nomatch (show (none : Option Bool) = some b from hq)
    | 3, hq => nomatch (show (none : Option Bool) = some b from hq)
    | 4, hq => nomatch (show (none : Option Bool) = some b from hq)
    | 5, hq => nomatch (show (none : Option Bool) = some b from hq)
    | 6, hq => nomatch (show (none : Option Bool) = some b from hq)
    | 7, hq => nomatch (show (none : Option Bool) = some b from hq)
    | 8, hq => nomatch (show (none : Option Bool) = some b from hq)
    | 9, hq => nomatch (show (none : Option Bool) = some b from hq)
    | 10, hq => nomatch (show (none : Option Bool) = some b from hq)
    | 11, hq => nomatch (show (none : Option Bool) = some b from hq)
    | 12, hq => by
      have e : some false = some b := hq
      cases e
      exact ⟨C_Stitch.cl, insty_ok (x := "Stitch") (fq_at cq 7 rfl), kitT_ok (x := "Stitch") (fq_at cq 68 rfl)⟩
    | 13, hq => by
      have e : some false = some b := hq
      cases e
      exact ⟨C_Plain.cl, insty_ok (x := "Plain") (fq_at cq 9 rfl), kitT_ok (x := "Plain") (fq_at cq 69 rfl)⟩
    | 14, hq => by
      have e : some false = some b := hq
      cases e
      exact ⟨C_Slip.cl, insty_ok (x := "Slip") (fq_at cq 11 rfl), kitT_ok (x := "Slip") (fq_at cq 70 rfl)⟩
    | 15, hq => by
      have e : some false = some b := hq
      cases e
      exact ⟨C_Over.cl, insty_ok (x := "Over") (fq_at cq 13 rfl), kitT_ok (x := "Over") (fq_at cq 71 rfl)⟩
    | 16, hq => by
      have e : some false = some b := hq
      cases e
      exact ⟨C_Lean.cl, insty_ok (x := "Lean") (fq_at cq 15 rfl), kitT_ok (x := "Lean") (fq_at cq 72 rfl)⟩
    | 17, hq => by
      have e : some false = some b := hq
      cases e
      exact ⟨C_Grow.cl, insty_ok (x := "Grow") (fq_at cq 17 rfl), kitT_ok (x := "Grow") (fq_at cq 73 rfl)⟩
    | 18, hq => by
      have e : some false = some b := hq
      cases e
      exact ⟨C_Cross.cl, insty_ok (x := "Cross") (fq_at cq 19 rfl), kitT_ok (x := "Cross") (fq_at cq 74 rfl)⟩
    | 19, hq => by
      have e : some false = some b := hq
      cases e
      exact ⟨C_Off.cl, insty_ok (x := "Off") (fq_at cq 21 rfl), kitT_ok (x := "Off") (fq_at cq 75 rfl)⟩
    | 20, hq => by
      have e : some false = some b := hq
      cases e
      exact ⟨C_Keep.cl, insty_ok (x := "Keep") (fq_at cq 23 rfl), kitT_ok (x := "Keep") (fq_at cq 76 rfl)⟩
    | 21, hq => by
      have e : some false = some b := hq
      cases e
      exact ⟨C_Fetch.cl, insty_ok (x := "Fetch") (fq_at cq 25 rfl), kitT_ok (x := "Fetch") (fq_at cq 77 rfl)⟩
    | _ + 22, hq => nomatch (show (none : Option Bool) = some b from hq))⟩
      ⟨He.free_ok X G (c.fact 64 rfl)⟩
      ⟨fun t b hb => kit_ty (tyT_ok hb), (fun q b hq => match q, hq with
    | 0, hq => nomatch (show (none : Option Bool) = some b from hq)
    | 1, hq => nomatch (show (none : Option Bool) = some b from hq)
    | 2, hq => nomatch (show (none : Option Bool) = some b from hq)
    | 3, hq => nomatch (show (none : Option Bool) = some b from hq)
    | 4, hq => nomatch (show (none : Option Bool) = some b from hq)
    | 5, hq => nomatch (show (none : Option Bool) = some b from hq)
    | 6, hq => nomatch (show (none : Option Bool) = some b from hq)
    | 7, hq => nomatch (show (none : Option Bool) = some b from hq)
    | 8, hq => nomatch (show (none : Option Bool) = some b from hq)
    | 9, hq => nomatch (show (none : Option Bool) = some b from hq)
    | 10, hq => nomatch (show (none : Option Bool) = some b from hq)
    | 11, hq => nomatch (show (none : Option Bool) = some b from hq)
    | 12, hq => by
      have e : some false = some b := hq
      cases e
      exact ⟨C_Stitch.cl, insty_ok (x := "Stitch") (fq_at cq 7 rfl), kitT_ok (x := "Stitch") (fq_at cq 78 rfl)⟩
    | 13, hq => by
      have e : some false = some b := hq
      cases e
      exact ⟨C_Plain.cl, insty_ok (x := "Plain") (fq_at cq 9 rfl), kitT_ok (x := "Plain") (fq_at cq 79 rfl)⟩
    | 14, hq => by
      have e : some false = some b := hq
      cases e
      exact ⟨C_Slip.cl, insty_ok (x := "Slip") (fq_at cq 11 rfl), kitT_ok (x := "Slip") (fq_at cq 80 rfl)⟩
    | 15, hq => by
      have e : some false = some b := hq
      cases e
      exact ⟨C_Over.cl, insty_ok (x := "Over") (fq_at cq 13 rfl), kitT_ok (x := "Over") (fq_at cq 81 rfl)⟩
    | 16, hq => by
      have e : some false = some b := hq
      cases e
      exact ⟨C_Lean.cl, insty_ok (x := "Lean") (fq_at cq 15 rfl), kitT_ok (x := "Lean") (fq_at cq 82 rfl)⟩
    | 17, hq => by
      have e : some false = some b := hq
      cases e
      exact ⟨C_Grow.cl, insty_ok (x := "Grow") (fq_at cq 17 rfl), kitT_ok (x := "Grow") (fq_at cq 83 rfl)⟩
    | 18, hq => by
      have e : some false = some b := hq
      cases e
      exact ⟨C_Cross.cl, insty_ok (x := "Cross") (fq_at cq 19 rfl), kitT_ok (x := "Cross") (fq_at cq 84 rfl)⟩
    | 19, hq => by
      have e : some false = some b := hq
      cases e
      exact ⟨C_Off.cl, insty_ok (x := "Off") (fq_at cq 21 rfl), kitT_ok (x := "Off") (fq_at cq 85 rfl)⟩
    | 20, hq => by
      have e : some false = some b := hq
      cases e
      exact ⟨C_Keep.cl, insty_ok (x := "Keep") (fq_at cq 23 rfl), kitT_ok (x := "Keep") (fq_at cq 86 rfl)⟩
    | 21, hq => by
      have e : some false = some b := hq
      cases e
      exact ⟨C_Fetch.cl, insty_ok (x := "Fetch") (fq_at cq 25 rfl), kitT_ok (x := "Fetch") (fq_at cq 87 rfl)⟩
    | _ + 22, hq => nomatch (show (none : Option Bool) = some b from hq))⟩
      ⟨He.free_ok X G (c.fact 65 rfl)⟩
      (callW_of O_read_chart (by first | exact Nat.le_of_ble_eq_true rfl | (dsimp only; omega)) (He.glo_ok X G (x := "read_chart") (c.fact 66 rfl)) F_read_chart.kp (F_read_chart.bindsN (ps := ["texts"]) fun _ _ _ _ _ _ us hl => match us, hl with | [_], _ => rfl)))) k__law_read
  have O__law_class_told : FnQ P w K mg base 2 (He.fAd K d25.at_) fd__law_class_told ["_law_e"] (spOf g 1 s__law_class_told) := fn_defQ (W := ⟨P, w, g, mg, base, 0, false⟩) (st := st__law_class_told) F__law_class_told sc__law_class_told (b__law_class_told ⟨He.free_ok X G (c.fact 42 rfl)⟩
      ⟨_, _, .own _, ⟨tyF_ok (K := K) (u := .ref (He.ga K "NoChart")) ⟨tyk_ok (y := "NoChart") (fq_at cq 90 rfl), tyk_ok (y := "NoChart") (fq_at cq 91 rfl), tyk_ok (y := "NoChart") (fq_at cq 92 rfl), tyk_ok (y := "NoChart") (fq_at cq 93 rfl), tyk_ok (y := "NoChart") (fq_at cq 94 rfl), tyk_ok (y := "NoChart") (fq_at cq 95 rfl), tyk_ok (y := "NoChart") (fq_at cq 96 rfl)⟩, fun _ _ h => nomatch h⟩, (fun q b hq => match q, hq with
    | 0, hq => nomatch (show (none : Option Bool) = some b from hq)
    | 1, hq => by
      have e : some false = some b := hq
      cases e
      exact ⟨(exc_ok (x := "NoStitch") (fq_at cq 4 rfl)).c, kitC_ok (x := "NoStitch") (y := "NoChart") (fq_at cq 88 rfl)⟩
    | 2, hq => nomatch (show (none : Option Bool) = some b from hq)
    | 3, hq => nomatch (show (none : Option Bool) = some b from hq)
    | 4, hq => nomatch (show (none : Option Bool) = some b from hq)
    | 5, hq => nomatch (show (none : Option Bool) = some b from hq)
    | 6, hq => nomatch (show (none : Option Bool) = some b from hq)
    | 7, hq => by
      have e : some true = some b := hq
      cases e
      exact ⟨(exc_ok (x := "NoChart") (fq_at cq 26 rfl)).c, kitC_ok (x := "NoChart") (y := "NoChart") (fq_at cq 89 rfl)⟩
    | 8, hq => nomatch (show (none : Option Bool) = some b from hq)
    | 9, hq => nomatch (show (none : Option Bool) = some b from hq)
    | 10, hq => nomatch (show (none : Option Bool) = some b from hq)
    | 11, hq => nomatch (show (none : Option Bool) = some b from hq)
    | 12, hq => nomatch (show (none : Option Bool) = some b from hq)
    | 13, hq => nomatch (show (none : Option Bool) = some b from hq)
    | 14, hq => nomatch (show (none : Option Bool) = some b from hq)
    | 15, hq => nomatch (show (none : Option Bool) = some b from hq)
    | 16, hq => nomatch (show (none : Option Bool) = some b from hq)
    | 17, hq => nomatch (show (none : Option Bool) = some b from hq)
    | 18, hq => nomatch (show (none : Option Bool) = some b from hq)
    | 19, hq => nomatch (show (none : Option Bool) = some b from hq)
    | 20, hq => nomatch (show (none : Option Bool) = some b from hq)
    | 21, hq => nomatch (show (none : Option Bool) = some b from hq)
    | _ + 22, hq => nomatch (show (none : Option Bool) = some b from hq)), .inl ⟨_, He.glo_ok X G (x := "NoChart") (c.fact 46 rfl), rfl, rfl⟩⟩
      ⟨_, _, .ty _, ⟨tyV_ok, fun _ _ h => nomatch h⟩, (fun q b hq => match q, hq with
    | 0, hq => nomatch (show (none : Option Bool) = some b from hq)
    | 1, hq => by
      have e : some true = some b := hq
      cases e
      exact ⟨(exc_ok (x := "NoStitch") (fq_at cq 4 rfl)).c, kitT_ok (x := "NoStitch") (fq_at cq 97 rfl)⟩
    | 2, hq => nomatch (show (none : Option Bool) = some b from hq)
    | 3, hq => nomatch (show (none : Option Bool) = some b from hq)
    | 4, hq => nomatch (show (none : Option Bool) = some b from hq)
    | 5, hq => nomatch (show (none : Option Bool) = some b from hq)
    | 6, hq => nomatch (show (none : Option Bool) = some b from hq)
    | 7, hq => by
      have e : some true = some b := hq
      cases e
      exact ⟨(exc_ok (x := "NoChart") (fq_at cq 26 rfl)).c, kitT_ok (x := "NoChart") (fq_at cq 98 rfl)⟩
    | 8, hq => nomatch (show (none : Option Bool) = some b from hq)
    | 9, hq => nomatch (show (none : Option Bool) = some b from hq)
    | 10, hq => nomatch (show (none : Option Bool) = some b from hq)
    | 11, hq => nomatch (show (none : Option Bool) = some b from hq)
    | 12, hq => nomatch (show (none : Option Bool) = some b from hq)
    | 13, hq => nomatch (show (none : Option Bool) = some b from hq)
    | 14, hq => nomatch (show (none : Option Bool) = some b from hq)
    | 15, hq => nomatch (show (none : Option Bool) = some b from hq)
    | 16, hq => nomatch (show (none : Option Bool) = some b from hq)
    | 17, hq => nomatch (show (none : Option Bool) = some b from hq)
    | 18, hq => nomatch (show (none : Option Bool) = some b from hq)
    | 19, hq => nomatch (show (none : Option Bool) = some b from hq)
    | 20, hq => nomatch (show (none : Option Bool) = some b from hq)
    | 21, hq => nomatch (show (none : Option Bool) = some b from hq)
    | _ + 22, hq => nomatch (show (none : Option Bool) = some b from hq)), .inr ⟨"ValueError", He.free_ok X G (c.fact 67 rfl), by decide +kernel, rfl, rfl⟩⟩
      ⟨_, _, .own _, ⟨tyF_ok (K := K) (u := .ref (He.ga K "NoPlace")) ⟨tyk_ok (y := "NoPlace") (fq_at cq 101 rfl), tyk_ok (y := "NoPlace") (fq_at cq 102 rfl), tyk_ok (y := "NoPlace") (fq_at cq 103 rfl), tyk_ok (y := "NoPlace") (fq_at cq 104 rfl), tyk_ok (y := "NoPlace") (fq_at cq 105 rfl), tyk_ok (y := "NoPlace") (fq_at cq 106 rfl), tyk_ok (y := "NoPlace") (fq_at cq 107 rfl)⟩, fun _ _ h => nomatch h⟩, (fun q b hq => match q, hq with
    | 0, hq => nomatch (show (none : Option Bool) = some b from hq)
    | 1, hq => by
      have e : some false = some b := hq
      cases e
      exact ⟨(exc_ok (x := "NoStitch") (fq_at cq 4 rfl)).c, kitC_ok (x := "NoStitch") (y := "NoPlace") (fq_at cq 99 rfl)⟩
    | 2, hq => nomatch (show (none : Option Bool) = some b from hq)
    | 3, hq => nomatch (show (none : Option Bool) = some b from hq)
    | 4, hq => nomatch (show (none : Option Bool) = some b from hq)
    | 5, hq => nomatch (show (none : Option Bool) = some b from hq)
    | 6, hq => nomatch (show (none : Option Bool) = some b from hq)
    | 7, hq => by
      have e : some false = some b := hq
      cases e
      exact ⟨(exc_ok (x := "NoChart") (fq_at cq 26 rfl)).c, kitC_ok (x := "NoChart") (y := "NoPlace") (fq_at cq 100 rfl)⟩
    | 8, hq => nomatch (show (none : Option Bool) = some b from hq)
    | 9, hq => nomatch (show (none : Option Bool) = some b from hq)
    | 10, hq => nomatch (show (none : Option Bool) = some b from hq)
    | 11, hq => nomatch (show (none : Option Bool) = some b from hq)
    | 12, hq => nomatch (show (none : Option Bool) = some b from hq)
    | 13, hq => nomatch (show (none : Option Bool) = some b from hq)
    | 14, hq => nomatch (show (none : Option Bool) = some b from hq)
    | 15, hq => nomatch (show (none : Option Bool) = some b from hq)
    | 16, hq => nomatch (show (none : Option Bool) = some b from hq)
    | 17, hq => nomatch (show (none : Option Bool) = some b from hq)
    | 18, hq => nomatch (show (none : Option Bool) = some b from hq)
    | 19, hq => nomatch (show (none : Option Bool) = some b from hq)
    | 20, hq => nomatch (show (none : Option Bool) = some b from hq)
    | 21, hq => nomatch (show (none : Option Bool) = some b from hq)
    | _ + 22, hq => nomatch (show (none : Option Bool) = some b from hq)), .inl ⟨_, He.glo_ok X G (x := "NoPlace") (c.fact 68 rfl), rfl, rfl⟩⟩
      ⟨_, _, .own _, ⟨tyF_ok (K := K) (u := .ref (He.ga K "NoName")) ⟨tyk_ok (y := "NoName") (fq_at cq 110 rfl), tyk_ok (y := "NoName") (fq_at cq 111 rfl), tyk_ok (y := "NoName") (fq_at cq 112 rfl), tyk_ok (y := "NoName") (fq_at cq 113 rfl), tyk_ok (y := "NoName") (fq_at cq 114 rfl), tyk_ok (y := "NoName") (fq_at cq 115 rfl), tyk_ok (y := "NoName") (fq_at cq 116 rfl)⟩, fun _ _ h => nomatch h⟩, (fun q b hq => match q, hq with
    | 0, hq => nomatch (show (none : Option Bool) = some b from hq)
    | 1, hq => by
      have e : some false = some b := hq
      cases e
      exact ⟨(exc_ok (x := "NoStitch") (fq_at cq 4 rfl)).c, kitC_ok (x := "NoStitch") (y := "NoName") (fq_at cq 108 rfl)⟩
    | 2, hq => nomatch (show (none : Option Bool) = some b from hq)
    | 3, hq => nomatch (show (none : Option Bool) = some b from hq)
    | 4, hq => nomatch (show (none : Option Bool) = some b from hq)
    | 5, hq => nomatch (show (none : Option Bool) = some b from hq)
    | 6, hq => nomatch (show (none : Option Bool) = some b from hq)
    | 7, hq => by
      have e : some false = some b := hq
      cases e
      exact ⟨(exc_ok (x := "NoChart") (fq_at cq 26 rfl)).c, kitC_ok (x := "NoChart") (y := "NoName") (fq_at cq 109 rfl)⟩
    | 8, hq => nomatch (show (none : Option Bool) = some b from hq)
    | 9, hq => nomatch (show (none : Option Bool) = some b from hq)
    | 10, hq => nomatch (show (none : Option Bool) = some b from hq)
    | 11, hq => nomatch (show (none : Option Bool) = some b from hq)
    | 12, hq => nomatch (show (none : Option Bool) = some b from hq)
    | 13, hq => nomatch (show (none : Option Bool) = some b from hq)
    | 14, hq => nomatch (show (none : Option Bool) = some b from hq)
    | 15, hq => nomatch (show (none : Option Bool) = some b from hq)
    | 16, hq => nomatch (show (none : Option Bool) = some b from hq)
    | 17, hq => nomatch (show (none : Option Bool) = some b from hq)
    | 18, hq => nomatch (show (none : Option Bool) = some b from hq)
    | 19, hq => nomatch (show (none : Option Bool) = some b from hq)
    | 20, hq => nomatch (show (none : Option Bool) = some b from hq)
    | 21, hq => nomatch (show (none : Option Bool) = some b from hq)
    | _ + 22, hq => nomatch (show (none : Option Bool) = some b from hq)), .inl ⟨_, He.glo_ok X G (x := "NoName") (c.fact 69 rfl), rfl, rfl⟩⟩
      ⟨_, _, .own _, ⟨tyF_ok (K := K) (u := .ref (He.ga K "NoRow")) ⟨tyk_ok (y := "NoRow") (fq_at cq 119 rfl), tyk_ok (y := "NoRow") (fq_at cq 120 rfl), tyk_ok (y := "NoRow") (fq_at cq 121 rfl), tyk_ok (y := "NoRow") (fq_at cq 122 rfl), tyk_ok (y := "NoRow") (fq_at cq 123 rfl), tyk_ok (y := "NoRow") (fq_at cq 124 rfl), tyk_ok (y := "NoRow") (fq_at cq 125 rfl)⟩, fun _ _ h => nomatch h⟩, (fun q b hq => match q, hq with
    | 0, hq => nomatch (show (none : Option Bool) = some b from hq)
    | 1, hq => by
      have e : some false = some b := hq
      cases e
      exact ⟨(exc_ok (x := "NoStitch") (fq_at cq 4 rfl)).c, kitC_ok (x := "NoStitch") (y := "NoRow") (fq_at cq 117 rfl)⟩
    | 2, hq => nomatch (show (none : Option Bool) = some b from hq)
    | 3, hq => nomatch (show (none : Option Bool) = some b from hq)
    | 4, hq => nomatch (show (none : Option Bool) = some b from hq)
    | 5, hq => nomatch (show (none : Option Bool) = some b from hq)
    | 6, hq => nomatch (show (none : Option Bool) = some b from hq)
    | 7, hq => by
      have e : some false = some b := hq
      cases e
      exact ⟨(exc_ok (x := "NoChart") (fq_at cq 26 rfl)).c, kitC_ok (x := "NoChart") (y := "NoRow") (fq_at cq 118 rfl)⟩
    | 8, hq => nomatch (show (none : Option Bool) = some b from hq)
    | 9, hq => nomatch (show (none : Option Bool) = some b from hq)
    | 10, hq => nomatch (show (none : Option Bool) = some b from hq)
    | 11, hq => nomatch (show (none : Option Bool) = some b from hq)
    | 12, hq => nomatch (show (none : Option Bool) = some b from hq)
    | 13, hq => nomatch (show (none : Option Bool) = some b from hq)
    | 14, hq => nomatch (show (none : Option Bool) = some b from hq)
    | 15, hq => nomatch (show (none : Option Bool) = some b from hq)
    | 16, hq => nomatch (show (none : Option Bool) = some b from hq)
    | 17, hq => nomatch (show (none : Option Bool) = some b from hq)
    | 18, hq => nomatch (show (none : Option Bool) = some b from hq)
    | 19, hq => nomatch (show (none : Option Bool) = some b from hq)
    | 20, hq => nomatch (show (none : Option Bool) = some b from hq)
    | 21, hq => nomatch (show (none : Option Bool) = some b from hq)
    | _ + 22, hq => nomatch (show (none : Option Bool) = some b from hq)), .inl ⟨_, He.glo_ok X G (x := "NoRow") (c.fact 70 rfl), rfl, rfl⟩⟩
      ⟨_, _, .own _, ⟨tyF_ok (K := K) (u := .ref (He.ga K "Tangle")) ⟨tyk_ok (y := "Tangle") (fq_at cq 128 rfl), tyk_ok (y := "Tangle") (fq_at cq 129 rfl), tyk_ok (y := "Tangle") (fq_at cq 130 rfl), tyk_ok (y := "Tangle") (fq_at cq 131 rfl), tyk_ok (y := "Tangle") (fq_at cq 132 rfl), tyk_ok (y := "Tangle") (fq_at cq 133 rfl), tyk_ok (y := "Tangle") (fq_at cq 134 rfl)⟩, fun _ _ h => nomatch h⟩, (fun q b hq => match q, hq with
    | 0, hq => nomatch (show (none : Option Bool) = some b from hq)
    | 1, hq => by
      have e : some false = some b := hq
      cases e
      exact ⟨(exc_ok (x := "NoStitch") (fq_at cq 4 rfl)).c, kitC_ok (x := "NoStitch") (y := "Tangle") (fq_at cq 126 rfl)⟩
    | 2, hq => nomatch (show (none : Option Bool) = some b from hq)
    | 3, hq => nomatch (show (none : Option Bool) = some b from hq)
    | 4, hq => nomatch (show (none : Option Bool) = some b from hq)
    | 5, hq => nomatch (show (none : Option Bool) = some b from hq)
    | 6, hq => nomatch (show (none : Option Bool) = some b from hq)
    | 7, hq => by
      have e : some false = some b := hq
      cases e
      exact ⟨(exc_ok (x := "NoChart") (fq_at cq 26 rfl)).c, kitC_ok (x := "NoChart") (y := "Tangle") (fq_at cq 127 rfl)⟩
    | 8, hq => nomatch (show (none : Option Bool) = some b from hq)
    | 9, hq => nomatch (show (none : Option Bool) = some b from hq)
    | 10, hq => nomatch (show (none : Option Bool) = some b from hq)
    | 11, hq => nomatch (show (none : Option Bool) = some b from hq)
    | 12, hq => nomatch (show (none : Option Bool) = some b from hq)
    | 13, hq => nomatch (show (none : Option Bool) = some b from hq)
    | 14, hq => nomatch (show (none : Option Bool) = some b from hq)
    | 15, hq => nomatch (show (none : Option Bool) = some b from hq)
    | 16, hq => nomatch (show (none : Option Bool) = some b from hq)
    | 17, hq => nomatch (show (none : Option Bool) = some b from hq)
    | 18, hq => nomatch (show (none : Option Bool) = some b from hq)
    | 19, hq => nomatch (show (none : Option Bool) = some b from hq)
    | 20, hq => nomatch (show (none : Option Bool) = some b from hq)
    | 21, hq => nomatch (show (none : Option Bool) = some b from hq)
    | _ + 22, hq => nomatch (show (none : Option Bool) = some b from hq)), .inl ⟨_, He.glo_ok X G (x := "Tangle") (c.fact 71 rfl), rfl, rfl⟩⟩
      ⟨_, _, .own _, ⟨tyF_ok (K := K) (u := .ref (He.ga K "NotLying")) ⟨tyk_ok (y := "NotLying") (fq_at cq 137 rfl), tyk_ok (y := "NotLying") (fq_at cq 138 rfl), tyk_ok (y := "NotLying") (fq_at cq 139 rfl), tyk_ok (y := "NotLying") (fq_at cq 140 rfl), tyk_ok (y := "NotLying") (fq_at cq 141 rfl), tyk_ok (y := "NotLying") (fq_at cq 142 rfl), tyk_ok (y := "NotLying") (fq_at cq 143 rfl)⟩, fun _ _ h => nomatch h⟩, (fun q b hq => match q, hq with
    | 0, hq => nomatch (show (none : Option Bool) = some b from hq)
    | 1, hq => by
      have e : some false = some b := hq
      cases e
      exact ⟨(exc_ok (x := "NoStitch") (fq_at cq 4 rfl)).c, kitC_ok (x := "NoStitch") (y := "NotLying") (fq_at cq 135 rfl)⟩
    | 2, hq => nomatch (show (none : Option Bool) = some b from hq)
    | 3, hq => nomatch (show (none : Option Bool) = some b from hq)
    | 4, hq => nomatch (show (none : Option Bool) = some b from hq)
    | 5, hq => nomatch (show (none : Option Bool) = some b from hq)
    | 6, hq => nomatch (show (none : Option Bool) = some b from hq)
    | 7, hq => by
      have e : some false = some b := hq
      cases e
      exact ⟨(exc_ok (x := "NoChart") (fq_at cq 26 rfl)).c, kitC_ok (x := "NoChart") (y := "NotLying") (fq_at cq 136 rfl)⟩
    | 8, hq => nomatch (show (none : Option Bool) = some b from hq)
    | 9, hq => nomatch (show (none : Option Bool) = some b from hq)
    | 10, hq => nomatch (show (none : Option Bool) = some b from hq)
    | 11, hq => nomatch (show (none : Option Bool) = some b from hq)
    | 12, hq => nomatch (show (none : Option Bool) = some b from hq)
    | 13, hq => nomatch (show (none : Option Bool) = some b from hq)
    | 14, hq => nomatch (show (none : Option Bool) = some b from hq)
    | 15, hq => nomatch (show (none : Option Bool) = some b from hq)
    | 16, hq => nomatch (show (none : Option Bool) = some b from hq)
    | 17, hq => nomatch (show (none : Option Bool) = some b from hq)
    | 18, hq => nomatch (show (none : Option Bool) = some b from hq)
    | 19, hq => nomatch (show (none : Option Bool) = some b from hq)
    | 20, hq => nomatch (show (none : Option Bool) = some b from hq)
    | 21, hq => nomatch (show (none : Option Bool) = some b from hq)
    | _ + 22, hq => nomatch (show (none : Option Bool) = some b from hq)), .inl ⟨_, He.glo_ok X G (x := "NotLying") (c.fact 72 rfl), rfl, rfl⟩⟩
      ⟨_, _, .own _, ⟨tyF_ok (K := K) (u := .ref (He.ga K "Miscount")) ⟨tyk_ok (y := "Miscount") (fq_at cq 146 rfl), tyk_ok (y := "Miscount") (fq_at cq 147 rfl), tyk_ok (y := "Miscount") (fq_at cq 148 rfl), tyk_ok (y := "Miscount") (fq_at cq 149 rfl), tyk_ok (y := "Miscount") (fq_at cq 150 rfl), tyk_ok (y := "Miscount") (fq_at cq 151 rfl), tyk_ok (y := "Miscount") (fq_at cq 152 rfl)⟩, fun _ _ h => nomatch h⟩, (fun q b hq => match q, hq with
    | 0, hq => nomatch (show (none : Option Bool) = some b from hq)
    | 1, hq => by
      have e : some false = some b := hq
      cases e
      exact ⟨(exc_ok (x := "NoStitch") (fq_at cq 4 rfl)).c, kitC_ok (x := "NoStitch") (y := "Miscount") (fq_at cq 144 rfl)⟩
    | 2, hq => nomatch (show (none : Option Bool) = some b from hq)
    | 3, hq => nomatch (show (none : Option Bool) = some b from hq)
    | 4, hq => nomatch (show (none : Option Bool) = some b from hq)
    | 5, hq => nomatch (show (none : Option Bool) = some b from hq)
    | 6, hq => nomatch (show (none : Option Bool) = some b from hq)
    | 7, hq => by
      have e : some false = some b := hq
      cases e
      exact ⟨(exc_ok (x := "NoChart") (fq_at cq 26 rfl)).c, kitC_ok (x := "NoChart") (y := "Miscount") (fq_at cq 145 rfl)⟩
    | 8, hq => nomatch (show (none : Option Bool) = some b from hq)
    | 9, hq => nomatch (show (none : Option Bool) = some b from hq)
    | 10, hq => nomatch (show (none : Option Bool) = some b from hq)
    | 11, hq => nomatch (show (none : Option Bool) = some b from hq)
    | 12, hq => nomatch (show (none : Option Bool) = some b from hq)
    | 13, hq => nomatch (show (none : Option Bool) = some b from hq)
    | 14, hq => nomatch (show (none : Option Bool) = some b from hq)
    | 15, hq => nomatch (show (none : Option Bool) = some b from hq)
    | 16, hq => nomatch (show (none : Option Bool) = some b from hq)
    | 17, hq => nomatch (show (none : Option Bool) = some b from hq)
    | 18, hq => nomatch (show (none : Option Bool) = some b from hq)
    | 19, hq => nomatch (show (none : Option Bool) = some b from hq)
    | 20, hq => nomatch (show (none : Option Bool) = some b from hq)
    | 21, hq => nomatch (show (none : Option Bool) = some b from hq)
    | _ + 22, hq => nomatch (show (none : Option Bool) = some b from hq)), .inl ⟨_, He.glo_ok X G (x := "Miscount") (c.fact 73 rfl), rfl, rfl⟩⟩
      ⟨_, _, .own _, ⟨tyF_ok (K := K) (u := .ref (He.ga K "TooMany")) ⟨tyk_ok (y := "TooMany") (fq_at cq 155 rfl), tyk_ok (y := "TooMany") (fq_at cq 156 rfl), tyk_ok (y := "TooMany") (fq_at cq 157 rfl), tyk_ok (y := "TooMany") (fq_at cq 158 rfl), tyk_ok (y := "TooMany") (fq_at cq 159 rfl), tyk_ok (y := "TooMany") (fq_at cq 160 rfl), tyk_ok (y := "TooMany") (fq_at cq 161 rfl)⟩, fun _ _ h => nomatch h⟩, (fun q b hq => match q, hq with
    | 0, hq => nomatch (show (none : Option Bool) = some b from hq)
    | 1, hq => by
      have e : some false = some b := hq
      cases e
      exact ⟨(exc_ok (x := "NoStitch") (fq_at cq 4 rfl)).c, kitC_ok (x := "NoStitch") (y := "TooMany") (fq_at cq 153 rfl)⟩
    | 2, hq => nomatch (show (none : Option Bool) = some b from hq)
    | 3, hq => nomatch (show (none : Option Bool) = some b from hq)
    | 4, hq => nomatch (show (none : Option Bool) = some b from hq)
    | 5, hq => nomatch (show (none : Option Bool) = some b from hq)
    | 6, hq => nomatch (show (none : Option Bool) = some b from hq)
    | 7, hq => by
      have e : some false = some b := hq
      cases e
      exact ⟨(exc_ok (x := "NoChart") (fq_at cq 26 rfl)).c, kitC_ok (x := "NoChart") (y := "TooMany") (fq_at cq 154 rfl)⟩
    | 8, hq => nomatch (show (none : Option Bool) = some b from hq)
    | 9, hq => nomatch (show (none : Option Bool) = some b from hq)
    | 10, hq => nomatch (show (none : Option Bool) = some b from hq)
    | 11, hq => nomatch (show (none : Option Bool) = some b from hq)
    | 12, hq => nomatch (show (none : Option Bool) = some b from hq)
    | 13, hq => nomatch (show (none : Option Bool) = some b from hq)
    | 14, hq => nomatch (show (none : Option Bool) = some b from hq)
    | 15, hq => nomatch (show (none : Option Bool) = some b from hq)
    | 16, hq => nomatch (show (none : Option Bool) = some b from hq)
    | 17, hq => nomatch (show (none : Option Bool) = some b from hq)
    | 18, hq => nomatch (show (none : Option Bool) = some b from hq)
    | 19, hq => nomatch (show (none : Option Bool) = some b from hq)
    | 20, hq => nomatch (show (none : Option Bool) = some b from hq)
    | 21, hq => nomatch (show (none : Option Bool) = some b from hq)
    | _ + 22, hq => nomatch (show (none : Option Bool) = some b from hq)), .inl ⟨_, He.glo_ok X G (x := "TooMany") (c.fact 74 rfl), rfl, rfl⟩⟩
      ⟨_, _, .own _, ⟨tyF_ok (K := K) (u := .ref (He.ga K "NoPattern")) ⟨tyk_ok (y := "NoPattern") (fq_at cq 164 rfl), tyk_ok (y := "NoPattern") (fq_at cq 165 rfl), tyk_ok (y := "NoPattern") (fq_at cq 166 rfl), tyk_ok (y := "NoPattern") (fq_at cq 167 rfl), tyk_ok (y := "NoPattern") (fq_at cq 168 rfl), tyk_ok (y := "NoPattern") (fq_at cq 169 rfl), tyk_ok (y := "NoPattern") (fq_at cq 170 rfl)⟩, fun _ _ h => nomatch h⟩, (fun q b hq => match q, hq with
    | 0, hq => nomatch (show (none : Option Bool) = some b from hq)
    | 1, hq => by
      have e : some false = some b := hq
      cases e
      exact ⟨(exc_ok (x := "NoStitch") (fq_at cq 4 rfl)).c, kitC_ok (x := "NoStitch") (y := "NoPattern") (fq_at cq 162 rfl)⟩
    | 2, hq => nomatch (show (none : Option Bool) = some b from hq)
    | 3, hq => nomatch (show (none : Option Bool) = some b from hq)
    | 4, hq => nomatch (show (none : Option Bool) = some b from hq)
    | 5, hq => nomatch (show (none : Option Bool) = some b from hq)
    | 6, hq => nomatch (show (none : Option Bool) = some b from hq)
    | 7, hq => by
      have e : some false = some b := hq
      cases e
      exact ⟨(exc_ok (x := "NoChart") (fq_at cq 26 rfl)).c, kitC_ok (x := "NoChart") (y := "NoPattern") (fq_at cq 163 rfl)⟩
    | 8, hq => nomatch (show (none : Option Bool) = some b from hq)
    | 9, hq => nomatch (show (none : Option Bool) = some b from hq)
    | 10, hq => nomatch (show (none : Option Bool) = some b from hq)
    | 11, hq => nomatch (show (none : Option Bool) = some b from hq)
    | 12, hq => nomatch (show (none : Option Bool) = some b from hq)
    | 13, hq => nomatch (show (none : Option Bool) = some b from hq)
    | 14, hq => nomatch (show (none : Option Bool) = some b from hq)
    | 15, hq => nomatch (show (none : Option Bool) = some b from hq)
    | 16, hq => nomatch (show (none : Option Bool) = some b from hq)
    | 17, hq => nomatch (show (none : Option Bool) = some b from hq)
    | 18, hq => nomatch (show (none : Option Bool) = some b from hq)
    | 19, hq => nomatch (show (none : Option Bool) = some b from hq)
    | 20, hq => nomatch (show (none : Option Bool) = some b from hq)
    | 21, hq => nomatch (show (none : Option Bool) = some b from hq)
    | _ + 22, hq => nomatch (show (none : Option Bool) = some b from hq)), .inl ⟨_, He.glo_ok X G (x := "NoPattern") (c.fact 75 rfl), rfl, rfl⟩⟩
      ⟨_, _, .own _, ⟨tyF_ok (K := K) (u := .ref (He.ga K "NoSum")) ⟨tyk_ok (y := "NoSum") (fq_at cq 173 rfl), tyk_ok (y := "NoSum") (fq_at cq 174 rfl), tyk_ok (y := "NoSum") (fq_at cq 175 rfl), tyk_ok (y := "NoSum") (fq_at cq 176 rfl), tyk_ok (y := "NoSum") (fq_at cq 177 rfl), tyk_ok (y := "NoSum") (fq_at cq 178 rfl), tyk_ok (y := "NoSum") (fq_at cq 179 rfl)⟩, fun _ _ h => nomatch h⟩, (fun q b hq => match q, hq with
    | 0, hq => nomatch (show (none : Option Bool) = some b from hq)
    | 1, hq => by
      have e : some false = some b := hq
      cases e
      exact ⟨(exc_ok (x := "NoStitch") (fq_at cq 4 rfl)).c, kitC_ok (x := "NoStitch") (y := "NoSum") (fq_at cq 171 rfl)⟩
    | 2, hq => nomatch (show (none : Option Bool) = some b from hq)
    | 3, hq => nomatch (show (none : Option Bool) = some b from hq)
    | 4, hq => nomatch (show (none : Option Bool) = some b from hq)
    | 5, hq => nomatch (show (none : Option Bool) = some b from hq)
    | 6, hq => nomatch (show (none : Option Bool) = some b from hq)
    | 7, hq => by
      have e : some false = some b := hq
      cases e
      exact ⟨(exc_ok (x := "NoChart") (fq_at cq 26 rfl)).c, kitC_ok (x := "NoChart") (y := "NoSum") (fq_at cq 172 rfl)⟩
    | 8, hq => nomatch (show (none : Option Bool) = some b from hq)
    | 9, hq => nomatch (show (none : Option Bool) = some b from hq)
    | 10, hq => nomatch (show (none : Option Bool) = some b from hq)
    | 11, hq => nomatch (show (none : Option Bool) = some b from hq)
    | 12, hq => nomatch (show (none : Option Bool) = some b from hq)
    | 13, hq => nomatch (show (none : Option Bool) = some b from hq)
    | 14, hq => nomatch (show (none : Option Bool) = some b from hq)
    | 15, hq => nomatch (show (none : Option Bool) = some b from hq)
    | 16, hq => nomatch (show (none : Option Bool) = some b from hq)
    | 17, hq => nomatch (show (none : Option Bool) = some b from hq)
    | 18, hq => nomatch (show (none : Option Bool) = some b from hq)
    | 19, hq => nomatch (show (none : Option Bool) = some b from hq)
    | 20, hq => nomatch (show (none : Option Bool) = some b from hq)
    | 21, hq => nomatch (show (none : Option Bool) = some b from hq)
    | _ + 22, hq => nomatch (show (none : Option Bool) = some b from hq)), .inl ⟨_, He.glo_ok X G (x := "NoSum") (c.fact 76 rfl), rfl, rfl⟩⟩
      ⟨_, _, .own _, ⟨tyF_ok (K := K) (u := .ref (He.ga K "NoStitch")) ⟨tyk_ok (y := "NoStitch") (fq_at cq 182 rfl), tyk_ok (y := "NoStitch") (fq_at cq 183 rfl), tyk_ok (y := "NoStitch") (fq_at cq 184 rfl), tyk_ok (y := "NoStitch") (fq_at cq 185 rfl), tyk_ok (y := "NoStitch") (fq_at cq 186 rfl), tyk_ok (y := "NoStitch") (fq_at cq 187 rfl), tyk_ok (y := "NoStitch") (fq_at cq 188 rfl)⟩, fun _ _ h => nomatch h⟩, (fun q b hq => match q, hq with
    | 0, hq => nomatch (show (none : Option Bool) = some b from hq)
    | 1, hq => by
      have e : some true = some b := hq
      cases e
      exact ⟨(exc_ok (x := "NoStitch") (fq_at cq 4 rfl)).c, kitC_ok (x := "NoStitch") (y := "NoStitch") (fq_at cq 180 rfl)⟩
    | 2, hq => nomatch (show (none : Option Bool) = some b from hq)
    | 3, hq => nomatch (show (none : Option Bool) = some b from hq)
    | 4, hq => nomatch (show (none : Option Bool) = some b from hq)
    | 5, hq => nomatch (show (none : Option Bool) = some b from hq)
    | 6, hq => nomatch (show (none : Option Bool) = some b from hq)
    | 7, hq => by
      have e : some false = some b := hq
      cases e
      exact ⟨(exc_ok (x := "NoChart") (fq_at cq 26 rfl)).c, kitC_ok (x := "NoChart") (y := "NoStitch") (fq_at cq 181 rfl)⟩
    | 8, hq => nomatch (show (none : Option Bool) = some b from hq)
    | 9, hq => nomatch (show (none : Option Bool) = some b from hq)
    | 10, hq => nomatch (show (none : Option Bool) = some b from hq)
    | 11, hq => nomatch (show (none : Option Bool) = some b from hq)
    | 12, hq => nomatch (show (none : Option Bool) = some b from hq)
    | 13, hq => nomatch (show (none : Option Bool) = some b from hq)
    | 14, hq => nomatch (show (none : Option Bool) = some b from hq)
    | 15, hq => nomatch (show (none : Option Bool) = some b from hq)
    | 16, hq => nomatch (show (none : Option Bool) = some b from hq)
    | 17, hq => nomatch (show (none : Option Bool) = some b from hq)
    | 18, hq => nomatch (show (none : Option Bool) = some b from hq)
    | 19, hq => nomatch (show (none : Option Bool) = some b from hq)
    | 20, hq => nomatch (show (none : Option Bool) = some b from hq)
    | 21, hq => nomatch (show (none : Option Bool) = some b from hq)
    | _ + 22, hq => nomatch (show (none : Option Bool) = some b from hq)), .inl ⟨_, He.glo_ok X G (x := "NoStitch") (c.fact 41 rfl), rfl, rfl⟩⟩)
  have O__law_refused : FnOk P w K mg base (L2.CX P w) 14 (He.fAd K d26.at_) fd__law_refused ["_law_texts_here"] (spOf g 1 s__law_refused) := fn_sub (fn_defD (W := ⟨P, w, g, mg, base, 12, false⟩) (st := st__law_refused) F__law_refused sc__law_refused (b__law_refused (by rfl)
      (callW_of O_read_chart (by first | exact Nat.le_of_ble_eq_true rfl | (dsimp only; omega)) (He.glo_ok X G (x := "read_chart") (c.fact 66 rfl)) F_read_chart.kp (F_read_chart.bindsN (ps := ["texts"]) fun _ _ _ _ _ _ us hl => match us, hl with | [_], _ => rfl))
      (callQ_of O__law_class_told (by first | exact Nat.le_of_ble_eq_true rfl | (dsimp only; omega)) (He.glo_ok X G (x := "_law_class_told") (c.fact 77 rfl)) F__law_class_told.kp (F__law_class_told.bindsN (ps := ["_law_e"]) fun _ _ _ _ _ _ us hl => match us, hl with | [_], _ => rfl))
      ⟨_, He.glo_ok X G (x := "StitchError") (c.fact 78 rfl), (fun q b hq => match q, hq with
    | 0, hq => nomatch (show (none : Option Bool) = some b from hq)
    | 1, hq => by
      have e : some true = some b := hq
      cases e
      exact exm_ok (x := "NoStitch") (y := "StitchError") (fq_at cq 189 rfl)
    | 2, hq => nomatch (show (none : Option Bool) = some b from hq)
    | 3, hq => nomatch (show (none : Option Bool) = some b from hq)
    | 4, hq => nomatch (show (none : Option Bool) = some b from hq)
    | 5, hq => nomatch (show (none : Option Bool) = some b from hq)
    | 6, hq => nomatch (show (none : Option Bool) = some b from hq)
    | 7, hq => by
      have e : some true = some b := hq
      cases e
      exact exm_ok (x := "NoChart") (y := "StitchError") (fq_at cq 190 rfl)
    | 8, hq => nomatch (show (none : Option Bool) = some b from hq)
    | 9, hq => nomatch (show (none : Option Bool) = some b from hq)
    | 10, hq => nomatch (show (none : Option Bool) = some b from hq)
    | 11, hq => nomatch (show (none : Option Bool) = some b from hq)
    | 12, hq => nomatch (show (none : Option Bool) = some b from hq)
    | 13, hq => nomatch (show (none : Option Bool) = some b from hq)
    | 14, hq => nomatch (show (none : Option Bool) = some b from hq)
    | 15, hq => nomatch (show (none : Option Bool) = some b from hq)
    | 16, hq => nomatch (show (none : Option Bool) = some b from hq)
    | 17, hq => nomatch (show (none : Option Bool) = some b from hq)
    | 18, hq => nomatch (show (none : Option Bool) = some b from hq)
    | 19, hq => nomatch (show (none : Option Bool) = some b from hq)
    | 20, hq => nomatch (show (none : Option Bool) = some b from hq)
    | 21, hq => nomatch (show (none : Option Bool) = some b from hq)
    | _ + 22, hq => nomatch (show (none : Option Bool) = some b from hq))⟩)) k__law_refused
  have O__law_no_cast : FnOk P w K mg base (L2.CX P w) 2 (He.fAd K d27.at_) fd__law_no_cast ["_law_cell"] (spOf g 1 s__law_no_cast) := fn_sub (fn_defD (W := ⟨P, w, g, mg, base, 0, false⟩) (st := st__law_no_cast) F__law_no_cast sc__law_no_cast (b__law_no_cast )) k__law_no_cast
  have O__law_no_row : FnOk P w K mg base (L2.CX P w) 2 (He.fAd K d28.at_) fd__law_no_row ["_law_cell"] (spOf g 1 s__law_no_row) := fn_sub (fn_defD (W := ⟨P, w, g, mg, base, 0, false⟩) (st := st__law_no_row) F__law_no_row sc__law_no_row (b__law_no_row )) k__law_no_row
  have O__law_no_chart : FnOk P w K mg base (L2.CX P w) 2 (He.fAd K d29.at_) fd__law_no_chart ["_law_texts_here", "_law_cell"] (spOf g 2 s__law_no_chart) := fn_sub (fn_defD (W := ⟨P, w, g, mg, base, 0, false⟩) (st := st__law_no_chart) F__law_no_chart sc__law_no_chart (b__law_no_chart ⟨He.free_ok X G (c.fact 65 rfl)⟩)) k__law_no_chart
  have O__law_spoiled : FnOk P w K mg base (L2.CX P w) 4 (He.fAd K d30.at_) fd__law_spoiled ["_law_texts_here", "_law_way", "_law_cell"] (spOf g 3 s__law_spoiled) := fn_sub (fn_defD (W := ⟨P, w, g, mg, base, 2, false⟩) (st := st__law_spoiled) F__law_spoiled sc__law_spoiled (b__law_spoiled (callW_of O__law_no_cast (by first | exact Nat.le_of_ble_eq_true rfl | (dsimp only; omega)) (He.glo_ok X G (x := "_law_no_cast") (c.fact 79 rfl)) F__law_no_cast.kp (F__law_no_cast.bindsN (ps := ["_law_cell"]) fun _ _ _ _ _ _ us hl => match us, hl with | [_], _ => rfl))
      ⟨He.free_ok X G (c.fact 24 rfl)⟩
      (callW_of O__law_no_row (by first | exact Nat.le_of_ble_eq_true rfl | (dsimp only; omega)) (He.glo_ok X G (x := "_law_no_row") (c.fact 80 rfl)) F__law_no_row.kp (F__law_no_row.bindsN (ps := ["_law_cell"]) fun _ _ _ _ _ _ us hl => match us, hl with | [_], _ => rfl))
      (callW_of O__law_no_chart (by first | exact Nat.le_of_ble_eq_true rfl | (dsimp only; omega)) (He.glo_ok X G (x := "_law_no_chart") (c.fact 81 rfl)) F__law_no_chart.kp (F__law_no_chart.bindsN (ps := ["_law_texts_here", "_law_cell"]) fun _ _ _ _ _ _ us hl => match us, hl with | [_, _], _ => rfl)))) k__law_spoiled
  have O__law_cell_at : FnOk P w K mg base (L2.CX P w) 2 (He.fAd K d31.at_) fd__law_cell_at ["_law_script", "_law_k"] (spOf g 2 s__law_cell_at) := fn_sub (fn_defD (W := ⟨P, w, g, mg, base, 0, false⟩) (st := st__law_cell_at) F__law_cell_at sc__law_cell_at (b__law_cell_at ⟨He.free_ok X G (c.fact 24 rfl)⟩)) k__law_cell_at
  have O__law_texts : FnOk P w K mg base (L2.CX P w) 2 (He.fAd K d32.at_) fd__law_texts ["_law_cast", "_law_rows_here"] (spOf g 2 s__law_texts) := fn_sub (fn_defD (W := ⟨P, w, g, mg, base, 0, false⟩) (st := st__law_texts) F__law_texts sc__law_texts (b__law_texts ⟨He.free_ok X G (c.fact 82 rfl)⟩
      ⟨He.free_ok X G (c.fact 24 rfl)⟩
      ⟨He.free_ok X G (c.fact 23 rfl)⟩)) k__law_texts
  have O__law_mark : FnOk P w K mg base (L2.CX P w) 2 (He.fAd K d33.at_) fd__law_mark ["_law_number"] (spOf g 1 s__law_mark) := fn_pg (fn_defD (W := ⟨P, w, g, mg, base, 0, false⟩) (st := st__law_mark) F__law_mark sc__law_mark (b__law_mark )) k__law_mark
  have O__law_rows : FnOk P w K mg base (L2.CX P w) 4 (He.fAd K d34.at_) fd__law_rows ["_law_script"] (spOf g 1 s__law_rows) := fn_pg (fn_defD (W := ⟨P, w, g, mg, base, 2, false⟩) (st := st__law_rows) F__law_rows sc__law_rows (b__law_rows (callW_of O__law_mark (by first | exact Nat.le_of_ble_eq_true rfl | (dsimp only; omega)) (He.glo_ok X G (x := "_law_mark") (c.fact 83 rfl)) F__law_mark.kp (F__law_mark.bindsN (ps := ["_law_number"]) fun _ _ _ _ _ _ us hl => match us, hl with | [_], _ => rfl)))) k__law_rows
  have O_law : FnOk P w K mg base (L2.CX P w) 16 (He.fAd K d35.at_) fd_law ["_law_script"] (spOf g 1 s_law) := fn_sub (fn_defD (W := ⟨P, w, g, mg, base, 14, false⟩) (st := st_law) F_law sc_law (b_law (callW_of O__law_read (by first | exact Nat.le_of_ble_eq_true rfl | (dsimp only; omega)) (He.glo_ok X G (x := "_law_read") (c.fact 84 rfl)) F__law_read.kp (F__law_read.bindsN (ps := ["_law_texts_here", "_law_cast", "_law_rows_here"]) fun _ _ _ _ _ _ us hl => match us, hl with | [_, _, _], _ => rfl))
      (callW_of O__law_cell_at (by first | exact Nat.le_of_ble_eq_true rfl | (dsimp only; omega)) (He.glo_ok X G (x := "_law_cell_at") (c.fact 85 rfl)) F__law_cell_at.kp (F__law_cell_at.bindsN (ps := ["_law_script", "_law_k"]) fun _ _ _ _ _ _ us hl => match us, hl with | [_, _], _ => rfl))
      (callW_of O__law_spoiled (by first | exact Nat.le_of_ble_eq_true rfl | (dsimp only; omega)) (He.glo_ok X G (x := "_law_spoiled") (c.fact 86 rfl)) F__law_spoiled.kp (F__law_spoiled.bindsN (ps := ["_law_texts_here", "_law_way", "_law_cell"]) fun _ _ _ _ _ _ us hl => match us, hl with | [_, _, _], _ => rfl))
      (callW_of O__law_refused (by first | exact Nat.le_of_ble_eq_true rfl | (dsimp only; omega)) (He.glo_ok X G (x := "_law_refused") (c.fact 87 rfl)) F__law_refused.kp (F__law_refused.bindsN (ps := ["_law_texts_here"]) fun _ _ _ _ _ _ us hl => match us, hl with | [_], _ => rfl))
      ⟨He.free_ok X G (c.fact 51 rfl)⟩
      (callW_of O__law_texts (by first | exact Nat.le_of_ble_eq_true rfl | (dsimp only; omega)) (He.glo_ok X G (x := "_law_texts") (c.fact 88 rfl)) F__law_texts.kp (F__law_texts.bindsN (ps := ["_law_cast", "_law_rows_here"]) fun _ _ _ _ _ _ us hl => match us, hl with | [_, _], _ => rfl))
      (callW_of O__law_rows (by first | exact Nat.le_of_ble_eq_true rfl | (dsimp only; omega)) (He.glo_ok X G (x := "_law_rows") (c.fact 89 rfl)) F__law_rows.kp (F__law_rows.bindsN (ps := ["_law_script"]) fun _ _ _ _ _ _ us hl => match us, hl with | [_], _ => rfl)))) k_law
  exact O_law
end Kn
open PySem PySem.W PySem.Calls PyProof.Rows in
set_option maxRecDepth 100000 in
set_option maxHeartbeats 0 in
theorem PySem.Challenge.cw_stitchroom_k41_charts_read_holds : PySem.Challenge.rw_stitchroom_k41_charts_read.Holds := by
  w_on; o_law
  refine HandSHeadRun.head_any (r := OpenLaw.row PySem.Challenge.rw_stitchroom_k41_charts_read) (q := view (OpenLaw.row PySem.Challenge.rw_stitchroom_k41_charts_read).prog [49]) (H := Kn.hk) (ob := Kn.ob) (M := 100000) (loose := Kn.loose) (d := HandSHeadRun.topDef (OpenLaw.row PySem.Challenge.rw_stitchroom_k41_charts_read).prog 49) (kwd := []) Kn.ob_eq
    (by kernel_rfl) (fun s => by kernel_rfl) Kn.run (by kernel_rfl) (by kernel_rfl) (by kernel_rfl) (by rfl) (by first | assumption | decide +kernel) (by decide +kernel) ⟨rfl, rfl, rfl, rfl, rfl, by decide +kernel⟩ ?hw ?hc
  case hw => w_witness2
  case hc =>
    refine Mx.walkM (l := PySem.Challenge.rw_stitchroom_k41_charts_read) (k := 16) (x := "_law_script") rfl (by kernel_rfl) ⟨rfl, by decide, by decide⟩ ?F Kn.plain
    intro w mg fa h Y G hmg0
    obtain ⟨K, KX, c, cq⟩ := Y
    have hmg : mg ("law" : PySem.Str) = some (.ref fa) := by
      have e : (HandSHeadRun.topDef (OpenLaw.row PySem.Challenge.rw_stitchroom_k41_charts_read).prog 49).name = ("law" : PySem.Str) := by kernel_rfl
      rw [← e]
      exact hmg0
    obtain ⟨fd, g, hg, hb, hF⟩ := Kn.facts (P := (PySem.Challenge.rw_stitchroom_k41_charts_read).prog) (w := w) KX G hmg c cq
    exact ⟨K, fd, g, KX, hg, hb, hF⟩
