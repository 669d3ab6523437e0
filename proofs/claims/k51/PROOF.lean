import PyProof.Rows.All
import Wide.All
import OpenK.AllK
import Wide.FinOn
import HandS.ForMost
import HandS.Wide
import HandS.Star
import HandS.FStr
import HandS.Conv
import HandS.Zip
import HandS.SetKeys
import HandS.StrMore
import HandS.Style
import HandS.Strs
import HandS.IsInst
import HandS.ClsMeth
import HandS.Iter
import HandS.MakeKw
import HandS.Defaults
import HandS.Head0
import HandS.Head1
import HandS.Head2
import HandS.HeadEnd
import HandS.HeadHook1
import HandS.HeadHook2
import HandS.HeadHook3
import HandS.HeadNt
import HandS.Words
import HandS.TupMul
import KE.KTupSum
import HandS.TupAny
import KE.KDictList
import HandS.RaiseMore
import PyProof.ReprRoads
import PyProof.StrBlock2
import HandS.TryOnly
import KE.GoesEnum
import HandS.SlotsOwn
import KE.KFmtOwn
import HandS.TryMany
import HandS.EndBits
import PySem.Challenge.RW_stridedeal_k51_whole_leads_judged
set_option Elab.async false
set_option linter.all false
set_option maxRecDepth 100000
set_option maxHeartbeats 4000000
/-! PV: what the head is asked: data, words, the hook. -/
namespace PV
open PySem L2

/-- data by value -/
inductive D where
  | non | bl (b : Bool) | int (i : Int) | str (x : Str)
  | tup (xs : List D) | lst (xs : List D) | obj (c : Nat) (xs : List D)
  /-- a list that nobody writes (the script) -/
  | rol (xs : List D)
  /-- a tuple that is known to have no dict -/
  | tpn (xs : List D)
  /-- a dict: its keys in their order, what they have -/
  | dct (ks : List Key) (xs : List D)

inductive BOp where | add | sub | mul | fdiv | mod | pow
  deriving DecidableEq
def dunN : BOp → Str | .add => "__add__" | .sub => "__sub__" | .mul => "__mul__" | .fdiv => "__floordiv__" | .mod => "__mod__" | .pow => "__pow__"
def dunR' : BOp → Str | .add => "__radd__" | .sub => "__rsub__" | .mul => "__rmul__" | .fdiv => "__rfloordiv__" | .mod => "__rmod__" | .pow => "__rpow__"
def dunC (op : BOp) (K : PySem.W.Frag) (C : Addr) : Bool := PySem.W.selfFirst K C && (match PySem.W.findIn K (.ref C) (dunR' op) with | some none => true | some (some (.ref _)) => true | _ => false)
abbrev AlP : Type := He.AlD × List (Option (List (Option (Str × Int))))
/-- ts: dicts of the module with text keys: their names, their keys -/
def obsK (ex : List (PySem.W.Frag → Bool)) (fn : List He5.DefA) (ts : List (Str × List Str)) (K : PySem.W.Frag) : AlP := (((ex.all fun f => f K) && fn.all fun d => d.ok K, fn.map fun d => He5.fnA K (d.at_ K)), ts.map fun t => He.dicW K (He.ga K t.1))
def valP (fn : List He5.DefA) (ts : List (Str × List Str)) (w : World) : AlP := ((true, fn.map He5.DefA.val), ts.map fun t => some (He.keysIn w.params t.2))
/-- refs put into a set (a mask) and a row of new ones -/
def addA {α : Type} : List Addr → Nat → List Addr → (Nat → List Addr → α) → α
  | [], m, nw, k => k m nw
  | a :: r, m, nw, k => HandSHeadRun.frNat a fun a => match Nat.beq (Nat.land (Nat.shiftRight m a) 1) 1 with
    | true => addA r m nw k
    | false => HandSHeadRun.frNat (Nat.lor m (Nat.shiftLeft 1 a)) fun m => addA r m (a :: nw) k
def levA {α : Type} (g : Addr → Option Obj) : List Addr → Nat → List Addr → (Nat → List Addr → α) → α
  | [], m, nw, k => k m nw
  | a :: r, m, nw, k => addA (match g a with
    | some o => He.refsD o
    | none => []) m nw fun m nw => levA g r m nw k
/-- what the names reach in n steps: each once -/
def asM (g : Addr → Option Obj) : Nat → List Addr → Nat → List Addr → List Addr
  | 0, _, _, acc => acc
  | n + 1, f, m, acc => levA g f m [] fun m nw => asM g n nw m (acc ++ nw)
def asP (g : Addr → Option Obj) (n : Nat) : List Addr := asM g n [mainGlobals] (Nat.shiftLeft 1 mainGlobals) [mainGlobals] ++ [cStatics]
def obsP (n : Nat) (ex : List (PySem.W.Frag → Bool)) (fn : List He5.DefA) (ts : List (Str × List Str)) (g : Addr → Option Obj) : AlP := obsK ex fn ts (He.frG g (asP g n))
def SaysP (ex : List (PySem.W.Frag → Bool)) (fn : List He5.DefA) (ts : List (Str × List Str)) (w : World) (K : PySem.W.Frag) : Prop := obsK ex fn ts K = valP fn ts w
def hookP (n : Nat) (ex : List (PySem.W.Frag → Bool)) (fn : List He5.DefA) (ts : List (Str × List Str)) : PySem.W.Hook where
  α := AlP
  obs := fun s => obsP n ex fn ts s.heap.get?
  val := fun w => valP fn ts w
  says := fun w h => ∃ K : PySem.W.Frag, K.In h ∧ SaysP ex fn ts w K
  of := fun _ _ q => ⟨_, He.frG_in, q⟩
  keeps := fun _ _ _ ⟨K, hK, q⟩ kp => ⟨K, PySem.W.Frag.In.keeps hK kp, q⟩
theorem obsP_eq {n : Nat} {ex : List (PySem.W.Frag → Bool)} {fn : List He5.DefA} {ts : List (Str × List Str)} {g : Addr → Option Obj} {s : Shared} (h : ∀ a, g a = s.heap.get? a) : obsP n ex fn ts g = (hookP n ex fn ts).obs s := by
  rw [show g = s.heap.get? from funext h]
  rfl
def fGlo (x : Str) (K : PySem.W.Frag) : Bool := (He.Fa.glo x).ok K
def fFree (x : Str) (K : PySem.W.Frag) : Bool := (He.Fa.free x).ok K
def fInt (x : Str) (i : Int) (K : PySem.W.Frag) : Bool := (He.Fa.int x i).ok K
def fStr (x z : Str) (K : PySem.W.Frag) : Bool := (He.Fa.str x z).ok K
/-- a tuple of ints of the module -/
def intsAre : List Value → List D → Bool
  | [], [] => true
  | .int i _ :: us, .int n :: ns => decide (i = n) && intsAre us ns
  | _, _ => false
def tupAre (o : Option Obj) (ns : List D) : Bool := match o with
  | some ⟨c, _, .seq its _, _⟩ => decide (c = Value.type "tuple") && (decide (its.size ≤ 64) && intsAre its.toList ns)
  | _ => false
def fTup (x : Str) (ns : List D) (K : PySem.W.Frag) : Bool := fGlo x K && tupAre (K.lookup (He.ga K x)) ns
/-- the values of a dict of the module, by key -/
def fTab (x : Str) (kvs : List (Str × Int)) (K : PySem.W.Frag) : Bool := fGlo x K && kvs.all fun q => match PySem.W.nsIn K (He.ga K x) q.1 with
  | some (some (.int n _)) => decide (n = q.2)
  | _ => false
def fCls (x : Str) (K : PySem.W.Frag) : Bool := (He.Fa.cls x).ok K
def fNoat (x f : Str) (K : PySem.W.Frag) : Bool := (He.Fa.noat x f).ok K
def fMeth (x m : Str) (K : PySem.W.Frag) : Bool := (He.Fa.meth x m).ok K
def fMkr (x : Str) (K : PySem.W.Frag) : Bool := (He.Fa.mkr x).ok K
def fStat (x m : Str) (K : PySem.W.Frag) : Bool := He5.wrapB K (He.ga K x) "staticmethod" "staticmethod.__get__" m && (PySem.W.readsIn K (He.ga K x) (.type "type") && (He.eqO (PySem.W.specialIn K (.ref (He.ga K x)) "__getattribute__") (some (some (.builtin "type.__getattribute__"))) && PySem.W.keepIn K (.ref (He5.wf K (He.ga K x) "staticmethod" m))))
/-- isinstance of x's instances: the class's own words -/
def fIns (x : Str) (K : PySem.W.Frag) : Bool := He.eqO (PySem.W.findIn K (.ref (He.ga K x)) "__class__") (some (some (.builtin "object.__class__"))) && (He.eqO (PySem.W.specialIn K (.builtin "object.__class__") "__get__") (some (some (.builtin "getset_descriptor.__get__"))) &&
  (decide (PySem.W.takesIn K (.builtin "object.__class__") = some true) && decide (PySem.W.mroIn K (He.ga K x) (.type "object") = some true)))
/-- .. asked for y's -/
def fKit (x y : Str) (b : Bool) (K : PySem.W.Frag) : Bool := decide (PySem.W.kitOne K (.ref (He.ga K x)) (.ref (He.ga K y)) = some b)
/-- built-in types' instances asked for x's -/
def fKitB (x : Str) (K : PySem.W.Frag) : Bool := ["NoneType", "bool", "int", "str", "tuple", "list", "dict"].all fun n => decide (PySem.W.kitOne K (.type n) (.ref (He.ga K x)) = some false)
inductive Wd where
  | glo (x : Str) | free (x : Str) | int (x : Str) (i : Int) | tupi (x : Str) (ns : List Int) | str (x z : Str) | cls (x : Str) | noat (x f : Str) | meth (x m : Str) | mkr (x : Str) | stat (x m : Str) | ins (x : Str) | kit (x y : Str) (b : Bool) | kitB (x : Str) | kitC (x : Str) | dun (op : BOp) (x : Str) | strm (x : Str) | tab (x : Str) (kvs : List (Str × Int))
  deriving DecidableEq
/-- x's instances asked for built-in types -/
def fKitC (x : Str) (K : PySem.W.Frag) : Bool := ["str", "int", "bool", "tuple", "list", "dict"].all fun n => decide (PySem.W.kitOne K (.ref (He.ga K x)) (.type n) = some false)
def fDun (op : BOp) (x : Str) (K : PySem.W.Frag) : Bool := fMeth x (dunN op) K && dunC op K (He.ga K x)
def fStrm (x : Str) (K : PySem.W.Frag) : Bool := fMeth x "__str__" K && (He.eqO (PySem.W.findIn K (.ref (He.ga K x)) "__format__") (some (some (.builtin "object.__format__"))) && decide (PySem.W.mroIn K (He.ga K x) (.type "object") = some true))
def Wd.ok : Wd → PySem.W.Frag → Bool
  | .glo x => fGlo x | .free x => fFree x | .int x i => fInt x i | .tupi x ns => fTup x (ns.map .int) | .str x z => fStr x z | .cls x => fCls x | .noat x f => fNoat x f | .meth x m => fMeth x m | .mkr x => fMkr x | .stat x m => fStat x m
  | .ins x => fIns x | .kit x y b => fKit x y b | .kitB x => fKitB x | .kitC x => fKitC x | .dun op x => fDun op x | .strm x => fStrm x | .tab x kvs => fTab x kvs
end PV

namespace SD
open PySem L2 PV
/-! printed by wip/gen/g2.py -/
def top (i : Nat) : Stmt := PySem.Challenge.pw_stridedeal_k51_whole_leads_judged.main.body.getD i (.Pass ⟨0, 0, 0, 0⟩)
def S_law_take : Stmt := top 64
def S_law_pull : Stmt := top 65
def S_law_fresh_labels : Stmt := top 66
def S_law_drawn_crew : Stmt := top 67
def S_law_written : Stmt := top 68
def S_law_divisor : Stmt := top 73
def S_law_turns_in : Stmt := top 75
def S_law_parts_of : Stmt := top 77
def S_law_dealt : Stmt := top 69
def S_law_greatest : Stmt := top 79
def S_is_log_shown : Stmt := top 61
def S_is_name : Stmt := top 13
def S_amount_in : Stmt := top 17
def S_is_whole : Stmt := top 14
def S_is_stride : Stmt := top 19
def S_check_stride : Stmt := top 20
def S_is_amount : Stmt := top 15
def S_check_number : Stmt := top 16
def S_Taker_init : Stmt := inClass (top 22) 0
def S_taker_in : Stmt := top 21
def S_takers_in : Stmt := top 29
def S_check_takers : Stmt := top 26
def S_common_divisor : Stmt := top 24
def S_common_multiple : Stmt := top 25
def S_Taker_turns_below : Stmt := inClass (top 22) 4
def S_Deal_all_below : Stmt := inClass (top 28) 2
def S_Deal_init : Stmt := inClass (top 28) 0
def S_Deal_read : Stmt := inClass (top 28) 1
def S_deal_written : Stmt := top 37
def S_is_figure : Stmt := top 34
def S_is_count : Stmt := top 33
def S_shows_turn : Stmt := top 39
def S_is_row_of : Stmt := top 36
def S_shows_lead : Stmt := top 55
def S_is_lead_shown : Stmt := top 60
def S_shows_alike : Stmt := top 54
def S_is_unlike_shown : Stmt := top 59
def S_holds : Stmt := top 58
def S_law_marred_r0 : Stmt := top 76
def S_law_marred_r1 : Stmt := top 76
def S_law_marred_r2 : Stmt := top 76
def S_law_changed : Stmt := top 80
def S_law_is_integer : Stmt := top 71
def S_law_judged : Stmt := top 78
def S_law_all_right : Stmt := top 81
def S_law_hatful : Stmt := top 63
def S_law : Stmt := top 82
def tabs : List (Str × List (Str × Int)) := [("WIDTHS", [("turn", 4), ("unlike", 4), ("alike", 3), ("lead", 5), ("log", 4), ("no deal", 3)])]
end SD

namespace SD
open PySem L2 PV
def wds : List Wd := [.free "len", .free "int", .free "abs", .free "str", .free "bool", .free "tuple", .free "list", .free "sum", .free "min", .free "max", .free "all", .free "any", .free "sorted", .free "range", .free "enumerate", .free "zip", .free "isinstance", .free "set", .free "dict", .free "repr", .glo "Taker", .cls "Taker", .noat "Taker" "name", .noat "Taker" "stride", .noat "Taker" "begin", .ins "Taker", .kitB "Taker", .kitC "Taker", .kit "Taker" "Taker" true, .kit "Taker" "Deal" false, .kit "Taker" "Turn" false, .glo "Deal", .cls "Deal", .noat "Deal" "takers", .noat "Deal" "names", .noat "Deal" "round", .noat "Deal" "run_in", .ins "Deal", .kitB "Deal", .kitC "Deal", .kit "Deal" "Taker" false, .kit "Deal" "Deal" true, .kit "Deal" "Turn" false, .glo "Turn", .cls "Turn", .noat "Turn" "name", .noat "Turn" "count", .noat "Turn" "mark", .ins "Turn", .kitB "Turn", .kitC "Turn", .kit "Turn" "Taker" false, .kit "Turn" "Deal" false, .kit "Turn" "Turn" true, .int "LONGEST_NAME" 10, .str "ALPHABET" "abcdefghijklmnopqrstuvwxyz", .str "DIGITS" "0123456789", .int "MOST_TAKERS" 8, .glo "WIDTHS", .tab "WIDTHS" [("turn", 4), ("unlike", 4), ("alike", 3), ("lead", 5), ("log", 4), ("no deal", 3)], .glo "InvalidText", .glo "_law_take", .glo "_law_pull", .glo "_law_fresh_labels", .glo "_law_drawn_crew", .glo "_law_written", .glo "_law_divisor", .glo "_law_turns_in", .glo "_law_parts_of", .glo "_law_dealt", .glo "_law_greatest", .glo "is_log_shown", .glo "is_name", .glo "amount_in", .glo "is_whole", .glo "is_stride", .glo "check_stride", .glo "is_amount", .glo "check_number", .mkr "Taker", .glo "taker_in", .glo "takers_in", .glo "check_takers", .glo "common_divisor", .glo "common_multiple", .meth "Taker" "turns_below", .meth "Deal" "all_below", .mkr "Deal", .stat "Deal" "read", .glo "deal_written", .glo "is_figure", .glo "is_count", .glo "shows_turn", .glo "is_row_of", .glo "shows_lead", .glo "is_lead_shown", .glo "shows_alike", .glo "is_unlike_shown", .glo "holds", .glo "_law_marred", .glo "_law_changed", .glo "_law_is_integer", .glo "_law_judged", .glo "_law_all_right", .glo "_law_hatful", .glo "law"]
def d_law_take : He5.DefA := { at_ := fun K => He.ga K "_law_take", name := "_law_take", qual := "_law_take", params := defArgs S_law_take, body := defBody S_law_take, scope := defScope S_law_take, dfl := [] }
def d_law_pull : He5.DefA := { at_ := fun K => He.ga K "_law_pull", name := "_law_pull", qual := "_law_pull", params := defArgs S_law_pull, body := defBody S_law_pull, scope := defScope S_law_pull, dfl := [] }
def d_law_fresh_labels : He5.DefA := { at_ := fun K => He.ga K "_law_fresh_labels", name := "_law_fresh_labels", qual := "_law_fresh_labels", params := defArgs S_law_fresh_labels, body := defBody S_law_fresh_labels, scope := defScope S_law_fresh_labels, dfl := [] }
def d_law_drawn_crew : He5.DefA := { at_ := fun K => He.ga K "_law_drawn_crew", name := "_law_drawn_crew", qual := "_law_drawn_crew", params := defArgs S_law_drawn_crew, body := defBody S_law_drawn_crew, scope := defScope S_law_drawn_crew, dfl := [] }
def d_law_written : He5.DefA := { at_ := fun K => He.ga K "_law_written", name := "_law_written", qual := "_law_written", params := defArgs S_law_written, body := defBody S_law_written, scope := defScope S_law_written, dfl := [] }
def d_law_divisor : He5.DefA := { at_ := fun K => He.ga K "_law_divisor", name := "_law_divisor", qual := "_law_divisor", params := defArgs S_law_divisor, body := defBody S_law_divisor, scope := defScope S_law_divisor, dfl := [] }
def d_law_turns_in : He5.DefA := { at_ := fun K => He.ga K "_law_turns_in", name := "_law_turns_in", qual := "_law_turns_in", params := defArgs S_law_turns_in, body := defBody S_law_turns_in, scope := defScope S_law_turns_in, dfl := [] }
def d_law_parts_of : He5.DefA := { at_ := fun K => He.ga K "_law_parts_of", name := "_law_parts_of", qual := "_law_parts_of", params := defArgs S_law_parts_of, body := defBody S_law_parts_of, scope := defScope S_law_parts_of, dfl := [] }
def d_law_dealt : He5.DefA := { at_ := fun K => He.ga K "_law_dealt", name := "_law_dealt", qual := "_law_dealt", params := defArgs S_law_dealt, body := defBody S_law_dealt, scope := defScope S_law_dealt, dfl := [] }
def d_law_greatest : He5.DefA := { at_ := fun K => He.ga K "_law_greatest", name := "_law_greatest", qual := "_law_greatest", params := defArgs S_law_greatest, body := defBody S_law_greatest, scope := defScope S_law_greatest, dfl := [] }
def d_is_log_shown : He5.DefA := { at_ := fun K => He.ga K "is_log_shown", name := "is_log_shown", qual := "is_log_shown", params := defArgs S_is_log_shown, body := defBody S_is_log_shown, scope := defScope S_is_log_shown, dfl := [] }
def d_is_name : He5.DefA := { at_ := fun K => He.ga K "is_name", name := "is_name", qual := "is_name", params := defArgs S_is_name, body := defBody S_is_name, scope := defScope S_is_name, dfl := [] }
def d_amount_in : He5.DefA := { at_ := fun K => He.ga K "amount_in", name := "amount_in", qual := "amount_in", params := defArgs S_amount_in, body := defBody S_amount_in, scope := defScope S_amount_in, dfl := [] }
def d_is_whole : He5.DefA := { at_ := fun K => He.ga K "is_whole", name := "is_whole", qual := "is_whole", params := defArgs S_is_whole, body := defBody S_is_whole, scope := defScope S_is_whole, dfl := [] }
def d_is_stride : He5.DefA := { at_ := fun K => He.ga K "is_stride", name := "is_stride", qual := "is_stride", params := defArgs S_is_stride, body := defBody S_is_stride, scope := defScope S_is_stride, dfl := [] }
def d_check_stride : He5.DefA := { at_ := fun K => He.ga K "check_stride", name := "check_stride", qual := "check_stride", params := defArgs S_check_stride, body := defBody S_check_stride, scope := defScope S_check_stride, dfl := [] }
def d_is_amount : He5.DefA := { at_ := fun K => He.ga K "is_amount", name := "is_amount", qual := "is_amount", params := defArgs S_is_amount, body := defBody S_is_amount, scope := defScope S_is_amount, dfl := [] }
def d_check_number : He5.DefA := { at_ := fun K => He.ga K "check_number", name := "check_number", qual := "check_number", params := defArgs S_check_number, body := defBody S_check_number, scope := defScope S_check_number, dfl := [] }
def d_Taker_init : He5.DefA := { at_ := fun K => He.ma K (He.ga K "Taker") "__init__", name := "__init__", qual := "Taker.__init__", params := defArgs S_Taker_init, body := defBody S_Taker_init, scope := defScope S_Taker_init, dfl := [.int 0] }
def d_taker_in : He5.DefA := { at_ := fun K => He.ga K "taker_in", name := "taker_in", qual := "taker_in", params := defArgs S_taker_in, body := defBody S_taker_in, scope := defScope S_taker_in, dfl := [] }
def d_takers_in : He5.DefA := { at_ := fun K => He.ga K "takers_in", name := "takers_in", qual := "takers_in", params := defArgs S_takers_in, body := defBody S_takers_in, scope := defScope S_takers_in, dfl := [] }
def d_check_takers : He5.DefA := { at_ := fun K => He.ga K "check_takers", name := "check_takers", qual := "check_takers", params := defArgs S_check_takers, body := defBody S_check_takers, scope := defScope S_check_takers, dfl := [] }
def d_common_divisor : He5.DefA := { at_ := fun K => He.ga K "common_divisor", name := "common_divisor", qual := "common_divisor", params := defArgs S_common_divisor, body := defBody S_common_divisor, scope := defScope S_common_divisor, dfl := [] }
def d_common_multiple : He5.DefA := { at_ := fun K => He.ga K "common_multiple", name := "common_multiple", qual := "common_multiple", params := defArgs S_common_multiple, body := defBody S_common_multiple, scope := defScope S_common_multiple, dfl := [] }
def d_Taker_turns_below : He5.DefA := { at_ := fun K => He.ma K (He.ga K "Taker") "turns_below", name := "turns_below", qual := "Taker.turns_below", params := defArgs S_Taker_turns_below, body := defBody S_Taker_turns_below, scope := defScope S_Taker_turns_below, dfl := [] }
def d_Deal_all_below : He5.DefA := { at_ := fun K => He.ma K (He.ga K "Deal") "all_below", name := "all_below", qual := "Deal.all_below", params := defArgs S_Deal_all_below, body := defBody S_Deal_all_below, scope := defScope S_Deal_all_below, dfl := [] }
def d_Deal_init : He5.DefA := { at_ := fun K => He.ma K (He.ga K "Deal") "__init__", name := "__init__", qual := "Deal.__init__", params := defArgs S_Deal_init, body := defBody S_Deal_init, scope := defScope S_Deal_init, dfl := [] }
def d_Deal_read : He5.DefA := { at_ := fun K => He5.wf K (He.ga K "Deal") "staticmethod" "read", name := "read", qual := "Deal.read", params := defArgs S_Deal_read, body := defBody S_Deal_read, scope := defScope S_Deal_read, dfl := [] }
def d_deal_written : He5.DefA := { at_ := fun K => He.ga K "deal_written", name := "deal_written", qual := "deal_written", params := defArgs S_deal_written, body := defBody S_deal_written, scope := defScope S_deal_written, dfl := [] }
def d_is_figure : He5.DefA := { at_ := fun K => He.ga K "is_figure", name := "is_figure", qual := "is_figure", params := defArgs S_is_figure, body := defBody S_is_figure, scope := defScope S_is_figure, dfl := [] }
def d_is_count : He5.DefA := { at_ := fun K => He.ga K "is_count", name := "is_count", qual := "is_count", params := defArgs S_is_count, body := defBody S_is_count, scope := defScope S_is_count, dfl := [] }
def d_shows_turn : He5.DefA := { at_ := fun K => He.ga K "shows_turn", name := "shows_turn", qual := "shows_turn", params := defArgs S_shows_turn, body := defBody S_shows_turn, scope := defScope S_shows_turn, dfl := [] }
def d_is_row_of : He5.DefA := { at_ := fun K => He.ga K "is_row_of", name := "is_row_of", qual := "is_row_of", params := defArgs S_is_row_of, body := defBody S_is_row_of, scope := defScope S_is_row_of, dfl := [] }
def d_shows_lead : He5.DefA := { at_ := fun K => He.ga K "shows_lead", name := "shows_lead", qual := "shows_lead", params := defArgs S_shows_lead, body := defBody S_shows_lead, scope := defScope S_shows_lead, dfl := [] }
def d_is_lead_shown : He5.DefA := { at_ := fun K => He.ga K "is_lead_shown", name := "is_lead_shown", qual := "is_lead_shown", params := defArgs S_is_lead_shown, body := defBody S_is_lead_shown, scope := defScope S_is_lead_shown, dfl := [] }
def d_shows_alike : He5.DefA := { at_ := fun K => He.ga K "shows_alike", name := "shows_alike", qual := "shows_alike", params := defArgs S_shows_alike, body := defBody S_shows_alike, scope := defScope S_shows_alike, dfl := [] }
def d_is_unlike_shown : He5.DefA := { at_ := fun K => He.ga K "is_unlike_shown", name := "is_unlike_shown", qual := "is_unlike_shown", params := defArgs S_is_unlike_shown, body := defBody S_is_unlike_shown, scope := defScope S_is_unlike_shown, dfl := [] }
def d_holds : He5.DefA := { at_ := fun K => He.ga K "holds", name := "holds", qual := "holds", params := defArgs S_holds, body := defBody S_holds, scope := defScope S_holds, dfl := [] }
def d_law_marred_r0 : He5.DefA := { at_ := fun K => He.ga K "_law_marred", name := "_law_marred", qual := "_law_marred", params := defArgs S_law_marred_r0, body := defBody S_law_marred_r0, scope := defScope S_law_marred_r0, dfl := [] }
def d_law_marred_r1 : He5.DefA := { at_ := fun K => He.ga K "_law_marred", name := "_law_marred", qual := "_law_marred", params := defArgs S_law_marred_r1, body := defBody S_law_marred_r1, scope := defScope S_law_marred_r1, dfl := [] }
def d_law_marred_r2 : He5.DefA := { at_ := fun K => He.ga K "_law_marred", name := "_law_marred", qual := "_law_marred", params := defArgs S_law_marred_r2, body := defBody S_law_marred_r2, scope := defScope S_law_marred_r2, dfl := [] }
def d_law_changed : He5.DefA := { at_ := fun K => He.ga K "_law_changed", name := "_law_changed", qual := "_law_changed", params := defArgs S_law_changed, body := defBody S_law_changed, scope := defScope S_law_changed, dfl := [] }
def d_law_is_integer : He5.DefA := { at_ := fun K => He.ga K "_law_is_integer", name := "_law_is_integer", qual := "_law_is_integer", params := defArgs S_law_is_integer, body := defBody S_law_is_integer, scope := defScope S_law_is_integer, dfl := [] }
def d_law_judged : He5.DefA := { at_ := fun K => He.ga K "_law_judged", name := "_law_judged", qual := "_law_judged", params := defArgs S_law_judged, body := defBody S_law_judged, scope := defScope S_law_judged, dfl := [] }
def d_law_all_right : He5.DefA := { at_ := fun K => He.ga K "_law_all_right", name := "_law_all_right", qual := "_law_all_right", params := defArgs S_law_all_right, body := defBody S_law_all_right, scope := defScope S_law_all_right, dfl := [] }
def d_law_hatful : He5.DefA := { at_ := fun K => He.ga K "_law_hatful", name := "_law_hatful", qual := "_law_hatful", params := defArgs S_law_hatful, body := defBody S_law_hatful, scope := defScope S_law_hatful, dfl := [] }
def d_law : He5.DefA := { at_ := fun K => He.ga K "law", name := "law", qual := "law", params := defArgs S_law, body := defBody S_law, scope := defScope S_law, dfl := [] }
def fns : List He5.DefA := [d_law_take, d_law_pull, d_law_fresh_labels, d_law_drawn_crew, d_law_written, d_law_divisor, d_law_turns_in, d_law_parts_of, d_law_dealt, d_law_greatest, d_is_log_shown, d_is_name, d_amount_in, d_is_whole, d_is_stride, d_check_stride, d_is_amount, d_check_number, d_Taker_init, d_taker_in, d_takers_in, d_check_takers, d_common_divisor, d_common_multiple, d_Taker_turns_below, d_Deal_all_below, d_Deal_init, d_Deal_read, d_deal_written, d_is_figure, d_is_count, d_shows_turn, d_is_row_of, d_shows_lead, d_is_lead_shown, d_shows_alike, d_is_unlike_shown, d_holds, d_law_marred_r0, d_law_marred_r1, d_law_marred_r2, d_law_changed, d_law_is_integer, d_law_judged, d_law_all_right, d_law_hatful, d_law]
abbrev tts : List (Str × List Str) := tabs.map fun t => (t.1, t.2.map (·.1))
def names0 : List Str := ["_wall", "WrongValue", "InvalidName", "InvalidText", "InvalidNumber", "UnknownName", "InvalidTakers", "MOST_TAKERS", "ALPHABET", "DIGITS", "LONGEST_NAME", "is_name", "is_whole", "is_amount", "check_number", "amount_in", "is_stride", "check_stride", "taker_in", "Taker", "common_divisor", "common_multiple", "check_takers", "Turn", "Deal", "takers_in", "SIGNS", "LONGEST", "is_count", "is_figure"]
def names1 : List Str := ["is_label", "is_row_of", "deal_written", "is_earlier", "shows_turn", "have_same_names", "LONGEST_LOG", "MOST_NAMES", "are_labels", "is_diary", "explains", "claims_of", "bars_log", "pairs_of_names", "is_in_cell", "is_row_right", "are_rows", "shows_alike", "shows_lead", "WIDTHS", "holds", "is_unlike_shown", "is_lead_shown", "is_log_shown", "_law_hatful", "_law_take", "_law_pull", "_law_fresh_labels", "_law_drawn_crew", "_law_written"]
def names2 : List Str := ["_law_dealt", "_law_had", "_law_is_integer", "_law_are_counts", "_law_divisor", "_law_cell", "_law_turns_in", "_law_marred", "_law_parts_of", "_law_judged", "_law_greatest", "_law_changed", "_law_all_right"]
def names : List Str := names0 ++ names1 ++ names2
abbrev R : PySem.W.OpenRow := PySem.W.OpenLaw.row PySem.Challenge.rw_stridedeal_k51_whole_leads_judged
abbrev hk : PySem.W.Hook := hookP 5 (wds.map Wd.ok) fns tts
def ob (s : PySem.W.SharedT) : AlP := obsP 5 (wds.map Wd.ok) fns tts (HandSHeadRun.getT s)
theorem ob_eq (s : PySem.W.SharedT) : ob s = hk.obs s.abs := obsP_eq (HandSHeadRun.getT_eq s)
theorem run0 (w : World) : HandSHeadRun.RunEq R (PySem.W.view R.prog [82]) hk ob 20000 names (w.withFollow "special-get-raises" false) := by
  intro os
  kernel_rfl
theorem run1 (w : World) : HandSHeadRun.RunEq R (PySem.W.view R.prog [82]) hk ob 20000 names (w.withFollow "special-get-raises" true) := by
  intro os
  kernel_rfl
/-- both answers of the one row of the world that the top asks -/
theorem run (w : World) : HandSHeadRun.RunEq R (PySem.W.view R.prog [82]) hk ob 20000 names w := PySem.W.byRow2 "special-get-raises" (P := fun w => HandSHeadRun.RunEq R (PySem.W.view R.prog [82]) hk ob 20000 names w) run0 run1 w
end SD

/-! PV: data by value. -/
namespace PV
open PySem L2

/-- the text's classes: addresses, attributes in their order -/
structure Sg where
  K : PySem.W.Frag
  ca : Nat → Addr
  lay : Nat → List Str

mutual
/-- v, read in F, is the datum -/
def Rep (S : Sg) (F : Hp) : D → V → Prop
  | .non, v => v = .non
  | .bl b, v => v = .bl b
  | .int i, v => v = .int i
  | .str x, v => v = .str x
  | .tup ds, v => ∃ a xs, v = .ref a ∧ SqT S.K F a xs ∧ Reps S F ds xs
  | .lst ds, v => ∃ a xs, v = .ref a ∧ F a = some (.lst xs) ∧ Reps S F ds xs
  | .rol ds, v => ∃ a xs, v = .ref a ∧ SqL S.K F a xs ∧ Reps S F ds xs
  | .tpn ds, v => ∃ a xs, v = .ref a ∧ (∃ o, F a = some (.frz o (.tup xs)) ∧ o.dict = none) ∧ Reps S F ds xs
  | .obj c ds, v => ∃ a dx fs, v = .ref a ∧ F a = some (.ins (S.ca c) dx fs) ∧ fs.map (·.1) = (S.lay c).take ds.length ∧ Reps S F ds (fs.map (·.2))
  | .dct ks ds, v => ∃ a kvs, v = .ref a ∧ F a = some (.dK kvs) ∧ kvs.map (·.1) = ks ∧ Reps S F ds (kvs.map (·.2))
def Reps (S : Sg) (F : Hp) : List D → List V → Prop
  | [], xs => xs = []
  | d :: ds, xs => ∃ v vs, xs = v :: vs ∧ Rep S F d v ∧ Reps S F ds vs
end

/-- what stands at an owned address -/
def Cell (S : Sg) (F : Hp) : D → HO → Prop
  | .lst ds, o => ∃ vs, o = .lst vs ∧ Reps S F ds vs
  | .obj c ds, o => ∃ dx fs, o = .ins (S.ca c) dx fs ∧ fs.map (·.1) = (S.lay c).take ds.length ∧ Reps S F ds (fs.map (·.2))
  | .dct ks ds, o => ∃ kvs, o = .dK kvs ∧ kvs.map (·.1) = ks ∧ Reps S F ds (kvs.map (·.2))
  | _, _ => False

theorem sqt_mono {K : PySem.W.Frag} {F F' : Hp} {a : Addr} {xs : List V} (e : Same F F') (h : SqT K F a xs) : SqT K F' a xs := by
  rcases h with (h | ⟨o, h⟩) | h
  · exact .inl (.inl (e _ _ h))
  · exact .inl (.inr ⟨o, e _ _ h⟩)
  · exact .inr h
section
variable {S : Sg} {F F' : Hp}
mutual
theorem Rep.mono (e : Same F F') : ∀ (d : D) (v : V), Rep S F d v → Rep S F' d v
  | .non, _, h => h
  | .bl _, _, h => h
  | .int _, _, h => h
  | .str _, _, h => h
  | .tup ds, v, h => by
    obtain ⟨a, xs, e1, h1, h2⟩ := h
    exact ⟨a, xs, e1, sqt_mono e h1, Reps.mono e ds xs h2⟩
  | .lst ds, v, h => by
    obtain ⟨a, xs, e1, h1, h2⟩ := h
    exact ⟨a, xs, e1, e _ _ h1, Reps.mono e ds xs h2⟩
  | .rol ds, v, h => by
    obtain ⟨a, xs, e1, h1, h2⟩ := h
    exact ⟨a, xs, e1, e.seq h1, Reps.mono e ds xs h2⟩
  | .tpn ds, v, h => by
    obtain ⟨a, xs, e1, ⟨o, h1, h2⟩, h3⟩ := h
    exact ⟨a, xs, e1, ⟨o, e _ _ h1, h2⟩, Reps.mono e ds xs h3⟩
  | .obj c ds, v, h => by
    obtain ⟨a, dx, fs, e1, h1, h2, h3⟩ := h
    exact ⟨a, dx, fs, e1, e _ _ h1, h2, Reps.mono e ds _ h3⟩
  | .dct ks ds, v, h => by
    obtain ⟨a, kvs, e1, h1, h2, h3⟩ := h
    exact ⟨a, kvs, e1, e _ _ h1, h2, Reps.mono e ds _ h3⟩
theorem Reps.mono (e : Same F F') : ∀ (ds : List D) (vs : List V), Reps S F ds vs → Reps S F' ds vs
  | [], _, h => h
  | d :: ds, _, h => by
    obtain ⟨v, vs, e1, h1, h2⟩ := h
    exact ⟨v, vs, e1, Rep.mono e d v h1, Reps.mono e ds vs h2⟩
end
theorem Cell.mono (e : Same F F') {d : D} {o : HO} (h : Cell S F d o) : Cell S F' d o := by
  cases d with
  | lst ds => obtain ⟨vs, e1, h1⟩ := h; exact ⟨vs, e1, h1.mono e⟩
  | obj c ds => obtain ⟨dx, fs, e1, h1, h2⟩ := h; exact ⟨dx, fs, e1, h1, h2.mono e⟩
  | dct ks ds => obtain ⟨kvs, e1, h1, h2⟩ := h; exact ⟨kvs, e1, h1, h2.mono e⟩
  | _ => exact False.elim h
theorem Reps.length : ∀ {ds : List D} {vs : List V}, Reps S F ds vs → vs.length = ds.length
  | [], _, h => by cases (show _ = [] from h); rfl
  | d :: ds, _, ⟨v, vs, e, _, h⟩ => by subst e; simp [Reps.length h]
theorem Reps.get : ∀ {ds : List D} {vs : List V} {i : Nat} {d : D}, Reps S F ds vs → ds[i]? = some d → ∃ v, vs[i]? = some v ∧ Rep S F d v
  | [], _, _, _, _, e => by simp at e
  | d :: ds, _, 0, _, ⟨v, vs, e, h1, h2⟩, e2 => by subst e; simp at e2; subst e2; exact ⟨v, by simp, h1⟩
  | d :: ds, _, i + 1, _, ⟨v, vs, e, h1, h2⟩, e2 => by
    subst e
    obtain ⟨w, h3, h4⟩ := Reps.get (i := i) h2 (by simpa using e2)
    exact ⟨w, by simpa using h3, h4⟩
theorem Reps.getV : ∀ {ds : List D} {vs : List V} {i : Nat} {v : V}, Reps S F ds vs → vs[i]? = some v → ∃ d, ds[i]? = some d ∧ Rep S F d v
  | [], _, _, _, h, e => by cases (show _ = [] from h); simp at e
  | d :: ds, _, 0, _, ⟨v, vs, e, h1, h2⟩, e2 => by subst e; simp at e2; subst e2; exact ⟨d, by simp, h1⟩
  | d :: ds, _, i + 1, _, ⟨v, vs, e, h1, h2⟩, e2 => by
    subst e
    obtain ⟨w, h3, h4⟩ := Reps.getV (i := i) h2 (by simpa using e2)
    exact ⟨w, by simpa using h3, h4⟩
theorem Reps.append : ∀ {ds es : List D} {vs us : List V}, Reps S F ds vs → Reps S F es us → Reps S F (ds ++ es) (vs ++ us)
  | [], _, _, _, h, h' => by cases (show _ = [] from h); exact h'
  | d :: ds, _, _, _, ⟨v, vs, e, h1, h2⟩, h' => by subst e; exact ⟨v, _, rfl, h1, Reps.append h2 h'⟩
theorem Reps.set {d : D} {v : V} (r : Rep S F d v) : ∀ {ds : List D} {vs : List V} (i : Nat), Reps S F ds vs → Reps S F (ds.set i d) (vs.set i v)
  | [], _, _, h => by cases (show _ = [] from h); exact rfl
  | _ :: ds, _, 0, ⟨w, vs, e, h1, h2⟩ => by subst e; exact ⟨v, vs, rfl, r, h2⟩
  | _ :: ds, _, i + 1, ⟨w, vs, e, h1, h2⟩ => by subst e; exact ⟨w, _, rfl, h1, Reps.set r i h2⟩
theorem Reps.take : ∀ {ds : List D} {vs : List V} (n : Nat), Reps S F ds vs → Reps S F (ds.take n) (vs.take n)
  | [], _, n, h => by cases (show _ = [] from h); simp; exact rfl
  | d :: ds, _, 0, _ => by simp; exact rfl
  | d :: ds, _, n + 1, ⟨v, vs, e, h1, h2⟩ => by subst e; exact ⟨v, _, rfl, h1, Reps.take n h2⟩
theorem Reps.drop : ∀ {ds : List D} {vs : List V} (n : Nat), Reps S F ds vs → Reps S F (ds.drop n) (vs.drop n)
  | [], _, n, h => by cases (show _ = [] from h); simp; exact rfl
  | d :: ds, _, 0, h => by simpa using h
  | d :: ds, _, n + 1, ⟨v, vs, e, h1, h2⟩ => by subst e; simpa using Reps.drop n h2
theorem Reps.replicate {d : D} {v : V} (r : Rep S F d v) : ∀ n : Nat, Reps S F (List.replicate n d) (List.replicate n v)
  | 0 => rfl
  | n + 1 => ⟨v, _, rfl, r, Reps.replicate r n⟩
theorem Reps.cons {d : D} {v : V} {ds : List D} {vs : List V} (h : Rep S F d v) (h' : Reps S F ds vs) : Reps S F (d :: ds) (v :: vs) := ⟨v, vs, rfl, h, h'⟩
theorem Reps.one {d : D} {v : V} (h : Rep S F d v) : Reps S F [d] [v] := ⟨v, [], rfl, h, rfl⟩
end

/-! ### slots -/
inductive Sl where
  | un | val (d : D) | own (d : D)
abbrev Ev := List Sl
/-- what an expression gives: a value, a new object that nobody else has, the object owned by a slot -/
inductive RR where
  | val (d : D) | fr (d : D) | sl (i : Nat)

/-- the datum of a result -/
def rdR (env : Ev) : RR → Option D
  | .val d => some d
  | .fr d => some d
  | .sl i => match env[i]? with
    | some (.own d) => some d
    | some (.val d) => some d
    | _ => none

structure SR (S : Sg) (Z F : Hp) (env : Ev) (σ : L2.St) (H : Hp) : Prop where
  same : Same F H
  prot : ∀ (a : Addr) (o : HO), Z a = some o → H a = some o ∧ F a = none
  len : σ.length = env.length
  val : ∀ (i : Nat) (d : D), env[i]? = some (Sl.val d) → ∃ v : V, σ[i]? = some (some v) ∧ Rep S F d v
  own : ∀ (i : Nat) (d : D), env[i]? = some (Sl.own d) → ∃ (a : Addr) (o : HO), σ[i]? = some (some (V.ref a)) ∧ H a = some o ∧ Cell S F d o ∧ F a = none ∧ Z a = none
  sep : ∀ (i j : Nat) (d e : D) (a : Addr), env[i]? = some (Sl.own d) → env[j]? = some (Sl.own e) → σ[i]? = some (some (V.ref a)) → σ[j]? = some (some (V.ref a)) → i = j

/-- read now: known for good, or what stands at an object's address -/
def Rd (S : Sg) (F H : Hp) (d : D) (v : V) : Prop := Rep S F d v ∨ ∃ a o, v = .ref a ∧ H a = some o ∧ Cell S F d o

/-- a's object is nobody's but the result's -/
def Mine (S : Sg) (Z F H : Hp) (σ : L2.St) (env : Ev) (d : D) (v : V) : Prop :=
  ∃ a o, v = .ref a ∧ H a = some o ∧ Cell S F d o ∧ F a = none ∧ Z a = none ∧ ∀ (i : Nat) (e : D), env[i]? = some (Sl.own e) → σ[i]? ≠ some (some (V.ref a))
def RRel (S : Sg) (Z F H : Hp) (σ : L2.St) (env : Ev) : RR → V → Prop
  | .val d, v => Rep S F d v
  | .fr d, v => Mine S Z F H σ env d v
  | .sl i, v => (∃ d : D, env[i]? = some (Sl.own d)) ∧ σ[i]? = some (some v)

/-- what is protected while a further part is reckoned -/
def Zx (Z H : Hp) : RR → V → Hp
  | .fr _, .ref a => fun b => if b = a then H a else Z b
  | _, _ => Z

section
variable {S : Sg} {Z F F' H H' : Hp} {env env' : Ev} {σ : L2.St} {r : RR} {v : V} {d : D}
theorem zx_le (q : RRel S Z F H σ env r v) : ∀ a o, Z a = some o → Zx Z H r v a = some o := by
  intro a o h
  cases r with
  | val d => exact h
  | sl i => exact h
  | fr d =>
    obtain ⟨b, u, rfl, hb, _, _, hz, _⟩ := q
    show (if a = b then H b else Z a) = some o
    by_cases e : a = b
    · subst e; rw [hz] at h; cases h
    · rw [if_neg e]; exact h
theorem zx_sr (s : SR S Z F env σ H) (q : RRel S Z F H σ env r v) : SR S (Zx Z H r v) F env σ H := by
  cases r with
  | val d => exact s
  | sl i => exact s
  | fr d =>
    obtain ⟨b, u, rfl, hb, hc, hf, hz, hn⟩ := q
    refine ⟨s.same, fun a o h => ?_, s.len, s.val, fun i e he => ?_, s.sep⟩
    · have h : (if a = b then H b else Z a) = some o := h
      by_cases e : a = b
      · subst e; rw [if_pos rfl] at h; exact ⟨h, hf⟩
      · rw [if_neg e] at h; exact s.prot a o h
    · obtain ⟨a, o, h1, h2, h3, h4, h5⟩ := s.own i e he
      refine ⟨a, o, h1, h2, h3, h4, ?_⟩
      show (if a = b then H b else Z a) = none
      have ne : a ≠ b := fun z => hn i e he (by rw [h1, z])
      rw [if_neg ne]; exact h5
theorem sr_weak {Z2 : Hp} (le : ∀ a o, Z a = some o → Z2 a = some o) (s : SR S Z2 F env σ H) : SR S Z F env σ H := by
  refine ⟨s.same, fun a o h => s.prot a o (le a o h), s.len, s.val, fun i e he => ?_, s.sep⟩
  obtain ⟨a, o, h1, h2, h3, h4, h5⟩ := s.own i e he
  refine ⟨a, o, h1, h2, h3, h4, ?_⟩
  cases q : Z a with
  | none => rfl
  | some u => rw [le a u q] at h5; cases h5
theorem rrel_weak {Z2 : Hp} (le : ∀ a o, Z a = some o → Z2 a = some o) (q : RRel S Z2 F H σ env r v) : RRel S Z F H σ env r v := by
  cases r with
  | val d => exact q
  | sl i => exact q
  | fr d =>
    obtain ⟨b, u, e, hb, hc, hf, hz, hn⟩ := q
    refine ⟨b, u, e, hb, hc, hf, ?_, hn⟩
    cases q : Z b with
    | none => rfl
    | some o => rw [le b o q] at hz; cases hz
/-- an earlier result is still there -/
theorem keep_rr (q : RRel S Z F H σ env r v) (e : Same F F') (s : SR S (Zx Z H r v) F' env' σ H') (h : rdR env' r = some d) : Rd S F' H' d v := by
  cases r with
  | val d' =>
    cases (show some d' = some d from h)
    exact .inl (Rep.mono e _ _ q)
  | sl i =>
    obtain ⟨_, q⟩ := q
    cases h1 : env'[i]? with
    | none => simp [rdR, h1] at h
    | some x =>
      cases x with
      | un => simp [rdR, h1] at h
      | val d' =>
        simp [rdR, h1] at h
        subst h
        obtain ⟨w, e1, r1⟩ := s.val i _ h1
        rw [q] at e1; cases e1
        exact .inl r1
      | own d' =>
        simp [rdR, h1] at h
        subst h
        obtain ⟨a, o, e1, e2, e3, _, _⟩ := s.own i _ h1
        rw [q] at e1; cases e1
        exact .inr ⟨a, o, rfl, e2, e3⟩
  | fr d' =>
    cases (show some d' = some d from h)
    obtain ⟨b, u, rfl, hb, hc, hf, hz, hn⟩ := q
    have h2 : H' b = some u := (s.prot b u (by show (if b = b then H b else Z b) = some u; rw [if_pos rfl]; exact hb)).1
    exact .inr ⟨b, u, rfl, h2, hc.mono e⟩
/-- a result just reckoned -/
theorem now_rr (s : SR S Z F env σ H) (q : RRel S Z F H σ env r v) (h : rdR env r = some d) : Rd S F H d v :=
  keep_rr q (Same.refl F) (zx_sr s q) h
theorem Rd.mono (e : Same F F') (h : Rd S F H d v) (hH : ∀ a o, H a = some o → F a = none → H' a = some o) (sf : Same F H) (sf' : Same F' H') : Rd S F' H' d v := by
  rcases h with h | ⟨a, o, e1, e2, e3⟩
  · exact .inl (Rep.mono e _ _ h)
  · refine .inr ⟨a, o, e1, ?_, e3.mono e⟩
    cases q : F a with
    | none => exact hH a o e2 q
    | some u =>
      have := sf a u q
      rw [e2] at this; cases this
      exact sf' a o (e a o q)
theorem Rd.lst {ds : List D} (sf : Same F H) (h : Rd S F H (.lst ds) v) : ∃ a xs, v = .ref a ∧ H a = some (.lst xs) ∧ Reps S F ds xs := by
  rcases h with ⟨a, xs, e, h1, h2⟩ | ⟨a, o, e, h1, xs, e2, h2⟩
  · exact ⟨a, xs, e, sf _ _ h1, h2⟩
  · subst e2; exact ⟨a, xs, e, h1, h2⟩
theorem Rd.rol {ds : List D} (sf : Same F H) (h : Rd S F H (.rol ds) v) : ∃ a xs, v = .ref a ∧ SqL S.K H a xs ∧ Reps S F ds xs := by
  rcases h with ⟨a, xs, e, h1, h2⟩ | ⟨a, o, e, h1, h2⟩
  · exact ⟨a, xs, e, sf.seq h1, h2⟩
  · exact False.elim h2
theorem Rd.tup {ds : List D} (sf : Same F H) (h : Rd S F H (.tup ds) v) : ∃ a xs, v = .ref a ∧ SqT S.K H a xs ∧ Reps S F ds xs := by
  rcases h with ⟨a, xs, e, h1, h2⟩ | ⟨a, o, e, h1, h2⟩
  · exact ⟨a, xs, e, sqt_mono sf h1, h2⟩
  · exact False.elim h2
theorem Rd.tpn {ds : List D} (sf : Same F H) (h : Rd S F H (.tpn ds) v) : ∃ a xs, v = .ref a ∧ (∃ o, H a = some (.frz o (.tup xs)) ∧ o.dict = none) ∧ SqT S.K H a xs ∧ Reps S F ds xs := by
  rcases h with ⟨a, xs, e1, ⟨o, h1, h2⟩, h3⟩ | ⟨_, _, _, _, h⟩
  · exact ⟨a, xs, e1, ⟨o, sf _ _ h1, h2⟩, .inl (.inr ⟨o, sf _ _ h1⟩), h3⟩
  · exact False.elim h
theorem Rd.obj {c : Nat} {ds : List D} (sf : Same F H) (h : Rd S F H (.obj c ds) v) : ∃ a dx fs, v = .ref a ∧ H a = some (.ins (S.ca c) dx fs) ∧ fs.map (·.1) = (S.lay c).take ds.length ∧ Reps S F ds (fs.map (·.2)) := by
  rcases h with ⟨a, dx, fs, e, h1, h2, h3⟩ | ⟨a, o, e, h1, dx, fs, e2, h2, h3⟩
  · exact ⟨a, dx, fs, e, sf _ _ h1, h2, h3⟩
  · subst e2; exact ⟨a, dx, fs, e, h1, h2, h3⟩
theorem Rd.dct {ks : List Key} {ds : List D} (sf : Same F H) (h : Rd S F H (.dct ks ds) v) : ∃ a kvs, v = .ref a ∧ H a = some (.dK kvs) ∧ kvs.map (·.1) = ks ∧ Reps S F ds (kvs.map (·.2)) := by
  rcases h with ⟨a, kvs, e, h1, h2, h3⟩ | ⟨a, o, e, h1, kvs, e2, h2, h3⟩
  · exact ⟨a, kvs, e, sf _ _ h1, h2, h3⟩
  · subst e2; exact ⟨a, kvs, e, h1, h2, h3⟩
theorem Rd.int {i : Int} (h : Rd S F H (.int i) v) : v = .int i := by
  rcases h with h | ⟨a, o, e, h1, h2⟩
  · exact h
  · exact False.elim h2
theorem Rd.str {x : Str} (h : Rd S F H (.str x) v) : v = .str x := by
  rcases h with h | ⟨a, o, e, h1, h2⟩
  · exact h
  · exact False.elim h2
theorem Rd.bl {x : Bool} (h : Rd S F H (.bl x) v) : v = .bl x := by
  rcases h with h | ⟨a, o, e, h1, h2⟩
  · exact h
  · exact False.elim h2
theorem Rd.non (h : Rd S F H .non v) : v = .non := by
  rcases h with h | ⟨a, o, e, h1, h2⟩
  · exact h
  · exact False.elim h2

/-! ### heaps that grow -/
theorem fresh_F (s : SR S Z F env σ H) {p : Addr} (hp : H p = none) : F p = none := s.same.free hp
theorem same_new {p : Addr} {o : HO} (hp : F p = none) : Same F (upd F p o) := fun a u e => by
  rw [upd_ne (ne_of_none e hp)]; exact e
theorem same_upd {p : Addr} {o : HO} (e : Same F H) (hp : F p = none) : Same F (upd H p o) := fun a u h => by
  rw [upd_ne (ne_of_none h hp)]; exact e a u h
theorem same_both {p : Addr} {o : HO} (e : Same F H) : Same (upd F p o) (upd H p o) := fun a u h => by
  by_cases q : a = p
  · subst q; rw [upd_same] at h ⊢; exact h
  · rw [upd_ne q] at h ⊢; exact e a u h
/-- a new object that is known for good -/
theorem sr_newF (s : SR S Z F env σ H) {p : Addr} {o : HO} (hp : H p = none) : SR S Z (upd F p o) env σ (upd H p o) := by
  have hf := fresh_F s hp
  refine ⟨same_both s.same, fun a u h => ?_, s.len, fun i d h => ?_, fun i d h => ?_, s.sep⟩
  · obtain ⟨h1, h2⟩ := s.prot a u h
    have ne := ne_of_none h1 hp
    rw [upd_ne ne, upd_ne ne]; exact ⟨h1, h2⟩
  · obtain ⟨v, h1, h2⟩ := s.val i d h
    exact ⟨v, h1, Rep.mono (same_new hf) _ _ h2⟩
  · obtain ⟨a, u, h1, h2, h3, h4, h5⟩ := s.own i d h
    have ne := ne_of_none h2 hp
    exact ⟨a, u, h1, by rw [upd_ne ne]; exact h2, h3.mono (same_new hf), by rw [upd_ne ne]; exact h4, h5⟩
/-- a new object that is nobody's -/
theorem sr_newH (s : SR S Z F env σ H) {p : Addr} {o : HO} (hp : H p = none) : SR S Z F env σ (upd H p o) := by
  have hf := fresh_F s hp
  refine ⟨same_upd s.same hf, fun a u h => ?_, s.len, s.val, fun i d h => ?_, s.sep⟩
  · obtain ⟨h1, h2⟩ := s.prot a u h
    rw [upd_ne (ne_of_none h1 hp)]; exact ⟨h1, h2⟩
  · obtain ⟨a, u, h1, h2, h3, h4, h5⟩ := s.own i d h
    exact ⟨a, u, h1, by rw [upd_ne (ne_of_none h2 hp)]; exact h2, h3, h4, h5⟩
theorem mine_new (s : SR S Z F env σ H) {p : Addr} {o : HO} (hp : H p = none) (c : Cell S F d o) : Mine S Z F (upd H p o) σ env d (.ref p) := by
  refine ⟨p, o, rfl, upd_same, c, fresh_F s hp, ?_, fun i e h z => ?_⟩
  · cases q : Z p with
    | none => rfl
    | some u => rw [(s.prot p u q).1] at hp; cases hp
  · obtain ⟨a, u, h1, h2, _⟩ := s.own i e h
    rw [z] at h1; cases h1
    rw [h2] at hp; cases hp
/-- the result's own object becomes known for good -/
theorem freeze (s : SR S Z F env σ H) (m : Mine S Z F H σ env d v) : ∃ F', Same F F' ∧ SR S Z F' env σ H ∧ Rep S F' d v := by
  obtain ⟨a, o, rfl, ha, hc, hf, hz, hn⟩ := m
  refine ⟨upd F a o, same_new hf, ⟨fun b u h => ?_, fun b u h => ?_, s.len, fun i d h => ?_, fun i e h => ?_, s.sep⟩, ?_⟩
  · by_cases q : b = a
    · subst q; rw [upd_same] at h; cases h; exact ha
    · rw [upd_ne q] at h; exact s.same b u h
  · have ne : b ≠ a := fun z => by subst z; rw [hz] at h; cases h
    rw [upd_ne ne]; exact s.prot b u h
  · obtain ⟨w, h1, h2⟩ := s.val i d h
    exact ⟨w, h1, Rep.mono (same_new hf) _ _ h2⟩
  · obtain ⟨b, u, h1, h2, h3, h4, h5⟩ := s.own i e h
    have ne : b ≠ a := fun z => hn i e h (by rw [h1, z])
    exact ⟨b, u, h1, h2, h3.mono (same_new hf), by rw [upd_ne ne]; exact h4, h5⟩
  · have hc2 := hc.mono (same_new (o := o) hf)
    cases d with
    | lst ds =>
      obtain ⟨vs, e, h⟩ := hc2
      subst e
      exact ⟨a, vs, rfl, upd_same, h⟩
    | obj c ds =>
      obtain ⟨dx, fs, e, h1, h2⟩ := hc2
      subst e
      exact ⟨a, dx, fs, rfl, upd_same, h1, h2⟩
    | dct ks ds =>
      obtain ⟨kvs, e, h1, h2⟩ := hc2
      subst e
      exact ⟨a, kvs, rfl, upd_same, h1, h2⟩
    | _ => exact False.elim hc
theorem get_set_self {α : Type} {l : List α} {i : Nat} {x y : α} (h : l[i]? = some y) : (l.set i x)[i]? = some x := by
  have : i < l.length := (List.getElem?_eq_some_iff.mp h).1
  simp [this]
/-- a slot's own object becomes known for good -/
theorem freeze_slot {i : Nat} (s : SR S Z F env σ H) (h : env[i]? = some (.own d)) (hv : σ[i]? = some (some v)) : ∃ F', Same F F' ∧ SR S Z F' (env.set i (Sl.val d)) σ H ∧ Rep S F' d v := by
  have other : ∀ j e, (env.set i (Sl.val d))[j]? = some (.own e) → j ≠ i ∧ env[j]? = some (.own e) := fun j e q => by
    by_cases z : j = i
    · subst z; rw [get_set_self h] at q; cases q
    · rw [List.getElem?_set_ne (Ne.symm z)] at q; exact ⟨z, q⟩
  obtain ⟨a, o, h1, h2, h3, h4, h5⟩ := s.own i d h
  rw [h1] at hv; cases hv
  -- the slot let go
  have s1 : SR S Z F (env.set i Sl.un) σ H := by
    have other' : ∀ j x, (env.set i Sl.un)[j]? = some x → x ≠ Sl.un → env[j]? = some x := fun j x q nx => by
      by_cases z : j = i
      · subst z; rw [get_set_self h] at q; cases q; exact absurd rfl nx
      · rw [List.getElem?_set_ne (Ne.symm z)] at q; exact q
    refine ⟨s.same, s.prot, by rw [List.length_set]; exact s.len, fun j e q => s.val j e (other' j _ q (by simp)), fun j e q => s.own j e (other' j _ q (by simp)), fun j k e f b q1 q2 => s.sep j k e f b (other' j _ q1 (by simp)) (other' k _ q2 (by simp))⟩
  have m : Mine S Z F H σ (env.set i Sl.un) d (.ref a) := by
    refine ⟨a, o, rfl, h2, h3, h4, h5, fun j e q z => ?_⟩
    have hne : j ≠ i := fun e2 => by subst e2; rw [get_set_self h] at q; cases q
    rw [List.getElem?_set_ne (Ne.symm hne)] at q
    exact hne (s.sep j i e d a q h z h1)
  obtain ⟨F', e1, s2, r⟩ := freeze s1 m
  refine ⟨F', e1, ⟨s2.same, s2.prot, by rw [s2.len]; simp, fun j e q => ?_, fun j e q => ?_, fun j k e f b q1 q2 => ?_⟩, r⟩
  · by_cases z : j = i
    · subst z; rw [get_set_self h] at q; cases q; exact ⟨_, h1, r⟩
    · rw [List.getElem?_set_ne (Ne.symm z)] at q
      exact s2.val j e (by rw [List.getElem?_set_ne (Ne.symm z)]; exact q)
  · obtain ⟨z, q⟩ := other j e q
    exact s2.own j e (by rw [List.getElem?_set_ne (Ne.symm z)]; exact q)
  · obtain ⟨z1, q1⟩ := other j e q1
    obtain ⟨z2, q2⟩ := other k f q2
    exact s2.sep j k e f b (by rw [List.getElem?_set_ne (Ne.symm z1)]; exact q1) (by rw [List.getElem?_set_ne (Ne.symm z2)]; exact q2)

/-! ### stores -/
theorem set_sl {i : Nat} {x : Sl} {l : Ev} (h : i < l.length) (j : Nat) (y : Sl) : (l.set i x)[j]? = some y ↔ (j = i ∧ y = x) ∨ (j ≠ i ∧ l[j]? = some y) := by
  by_cases z : j = i
  · subst z
    simp [h]
    exact ⟨fun e => e.symm, fun e => e.symm⟩
  · rw [List.getElem?_set_ne (Ne.symm z)]
    simp [z]
theorem sig_set {i : Nat} {v : V} {σ : L2.St} (h : i < σ.length) : (σ.set i (some v))[i]? = some (some v) := by simp [h]
theorem sig_ne {i j : Nat} {v : Option V} {σ : L2.St} (h : j ≠ i) : (σ.set i v)[j]? = σ[j]? := List.getElem?_set_ne (Ne.symm h)
/-- a value stored in a slot -/
theorem sr_setV {i : Nat} (s : SR S Z F env σ H) (hi : i < env.length) (r : Rep S F d v) : SR S Z F (env.set i (Sl.val d)) (σ.set i (some v)) H := by
  have hs : i < σ.length := by rw [s.len]; exact hi
  refine ⟨s.same, s.prot, by simp [s.len], fun j e q => ?_, fun j e q => ?_, fun j k e f b q1 q2 e1 e2 => ?_⟩
  · rcases (set_sl hi j _).mp q with ⟨rfl, z⟩ | ⟨ne, z⟩
    · cases z; exact ⟨v, sig_set hs, r⟩
    · rw [sig_ne ne]; exact s.val j e z
  · rcases (set_sl hi j _).mp q with ⟨rfl, z⟩ | ⟨ne, z⟩
    · cases z
    · rw [sig_ne ne]; exact s.own j e z
  · rcases (set_sl hi j _).mp q1 with ⟨_, z⟩ | ⟨n1, z1⟩
    · cases z
    · rcases (set_sl hi k _).mp q2 with ⟨_, z⟩ | ⟨n2, z2⟩
      · cases z
      · rw [sig_ne n1] at e1; rw [sig_ne n2] at e2
        exact s.sep j k e f b z1 z2 e1 e2
/-- an own object stored in a slot -/
theorem sr_setO {i : Nat} (s : SR S Z F env σ H) (hi : i < env.length) (m : Mine S Z F H σ env d v) : SR S Z F (env.set i (Sl.own d)) (σ.set i (some v)) H := by
  have hs : i < σ.length := by rw [s.len]; exact hi
  obtain ⟨a, o, rfl, ha, hc, hf, hz, hn⟩ := m
  refine ⟨s.same, s.prot, by simp [s.len], fun j e q => ?_, fun j e q => ?_, fun j k e f b q1 q2 e1 e2 => ?_⟩
  · rcases (set_sl hi j _).mp q with ⟨rfl, z⟩ | ⟨ne, z⟩
    · cases z
    · rw [sig_ne ne]; exact s.val j e z
  · rcases (set_sl hi j _).mp q with ⟨rfl, z⟩ | ⟨ne, z⟩
    · cases z; exact ⟨a, o, sig_set hs, ha, hc, hf, hz⟩
    · rw [sig_ne ne]; exact s.own j e z
  · rcases (set_sl hi j _).mp q1 with ⟨h1, z1⟩ | ⟨n1, z1⟩
    · rcases (set_sl hi k _).mp q2 with ⟨h2, z2⟩ | ⟨n2, z2⟩
      · rw [h1, h2]
      · rw [h1, sig_set hs] at e1; cases e1
        rw [sig_ne n2] at e2
        exact absurd e2 (hn k _ z2)
    · rcases (set_sl hi k _).mp q2 with ⟨h2, z2⟩ | ⟨n2, z2⟩
      · rw [h2, sig_set hs] at e2; cases e2
        rw [sig_ne n1] at e1
        exact absurd e1 (hn j _ z1)
      · rw [sig_ne n1] at e1; rw [sig_ne n2] at e2
        exact s.sep j k e f b z1 z2 e1 e2
/-- a slot's own object is written -/
theorem sr_write {i : Nat} {a : Addr} {d' : D} {o : HO} (s : SR S Z F env σ H) (h : env[i]? = some (.own d)) (hv : σ[i]? = some (some (.ref a))) (c : Cell S F d' o) : SR S Z F (env.set i (.own d')) σ (upd H a o) := by
  have hi : i < env.length := (List.getElem?_eq_some_iff.mp h).1
  obtain ⟨b, u, h1, h2, h3, h4, h5⟩ := s.own i d h
  rw [hv] at h1; cases h1
  refine ⟨same_upd s.same h4, fun b w q => ?_, by simp [s.len], fun j e q => ?_, fun j e q => ?_, fun j k e f b q1 q2 e1 e2 => ?_⟩
  · obtain ⟨p1, p2⟩ := s.prot b w q
    have ne : b ≠ a := fun z => by subst z; rw [h5] at q; cases q
    rw [upd_ne ne]; exact ⟨p1, p2⟩
  · rcases (set_sl hi j _).mp q with ⟨rfl, z⟩ | ⟨ne, z⟩
    · cases z
    · exact s.val j e z
  · rcases (set_sl hi j _).mp q with ⟨rfl, z⟩ | ⟨ne, z⟩
    · cases z; exact ⟨a, o, hv, upd_same, c, h4, h5⟩
    · obtain ⟨b, w, k1, k2, k3, k4, k5⟩ := s.own j e z
      have nb : b ≠ a := fun zz => ne (s.sep j i e d a z h (by rw [k1, zz]) hv)
      exact ⟨b, w, k1, by rw [upd_ne nb]; exact k2, k3, k4, k5⟩
  · have own_of : ∀ (j : Nat) (e : D), (env.set i (Sl.own d'))[j]? = some (Sl.own e) → ∃ e' : D, env[j]? = some (Sl.own e') := fun j e q => by
      rcases (set_sl hi j _).mp q with ⟨h1, z1⟩ | ⟨n1, z1⟩
      · exact ⟨d, by rw [h1]; exact h⟩
      · exact ⟨e, z1⟩
    obtain ⟨e', z1⟩ := own_of j e q1
    obtain ⟨f', z2⟩ := own_of k f q2
    exact s.sep j k e' f' b z1 z2 e1 e2
end
end PV

/-! PV: the small language and what it does, by data. -/
namespace PV
open PySem L2

inductive COp where | lt | le | gt | ge | eq | ne | isin | notin | is | isnt
  deriving DecidableEq
/-- built-ins called by name -/
inductive Bi where | len | int | abs | str | bool | tup | lst | sum | min | max | all | any | min2 | max2 | sorted | repr | dict
  deriving DecidableEq
/-- methods of built-in types -/
inductive Mi where | split | join | sindex | tindex | lindex | cnt
  deriving DecidableEq
/-- classes asked by isinstance -/
inductive Tn where | str | int | bool | tup | lst | dct | own (c : Nat)
  deriving DecidableEq
inductive Tg where | nm (i : Nat) | tp (ts : List Tg)

mutual
inductive E where
  | var (i : Nat) | lit (d : D) | glob (g : Nat)
  | bin (op : BOp) (a b : E) | neg (a : E) | nott (a : E)
  | band (es : List E) | bor (es : List E) | ite (c a b : E)
  | cmp (op : COp) (a b : E) | chain (o1 o2 : COp) (a b c : E)
  | tup (as : List A) | lst (as : List A)
  | idx (a i : E) | slc (a : E) (lo hi : List E)
  | fld (a : E) (c k : Nat)
  | call (f : Nat) (as : List A) | meth (c f : Nat) (o : A) (as : List A)
  | make (c f : Nat) (as : List A)
  | bi (b : Bi) (as : List A) | mi (m : Mi) (o : A) (as : List A)
  | isi (t : Tn) (a : A) | nset (a : A) | makeS (c f : Nat) (a : A)
  | dun (op : BOp) (c f : Nat) (a b : A) | lrng (a : A) | lrng3 (as : List A) | lenO (c f : Nat) (a : A) | pop (i : Nat) (a : A) | rev (a : A) | dnew | cget (g : Nat) (a : A) (d : Int)
  | strO (c f : Nat) (a : A) | fst (es : List E) | makeV (c f : Nat) (as : List A)
  | lc (elt : A) (tg : Tg) (it : Wk) (ifs : List E) (own : List Nat)
/-- an operand: v, for good; p, to be looked at only -/
inductive A where
  | v (e : E) | p (e : E)
/-- what is walked -/
inductive Wk where
  | it (a : A) | rng (a : A) | rng2 (a b : A) | enum (a : A) | zip (a b : A)
end

/-- a def's promise, by data: the arguments; what is wanted of (is it new?, the answer, what the handed objects hold then) -/
structure Spec where
  α : Type
  pre : α → List D → Prop
  post : α → Bool → D → List D → Prop
def Spec.sp (s : Spec) (ds : List D) (k : Bool → D → List D → Prop) : Prop := ∃ x : s.α, s.pre x ds ∧ ∀ fr d o, s.post x fr d o → k fr d o
theorem Spec.mono {s : Spec} {ds : List D} {k k' : Bool → D → List D → Prop} (h : s.sp ds k) (m : ∀ fr d o, k fr d o → k' fr d o) : s.sp ds k' :=
  let ⟨x, p, q⟩ := h
  ⟨x, p, fun fr d o z => m fr d o (q fr d o z)⟩
inductive Kd where
  | fn (x : Str) | meth (c : Nat) (x : Str) | init (c : Nat) | stat (c : Nat) (x : Str) | initS (c : Nat) | fnK (x : Str) (n : Nat) (ks : List Str) | methK (c : Nat) (x : Str) (n : Nat) (ks : List Str) | dun (op : BOp) (c : Nat) | strm (c : Nat)
/-- what is known of a def: how it is reached, which parameters it changes, its level -/
structure Fi where
  kd : Kd
  io : List Bool
  lv : Nat
structure Gt where
  lay : List (List Str)
  cn : List Str
  fi : List Fi
  gl : List (Str × D)
  room : Nat
  sp : Nat → Spec
  isi : Nat → Tn → Option Bool
  tb : List (Str × List (Str × Int)) := []
  nm : List Str := []

abbrev LIM : Nat := 16777216
def flatD : D → Bool
  | .non => true | .bl _ => true | .int _ => true | .str _ => true | _ => false
def flatC : D → Bool
  | .lst ds => ds.all flatD | .obj _ ds => ds.all flatD | _ => false
def strItems (x : Str) : List D := x.cps.toList.map fun c => .str ⟨#[c]⟩

/-! ### operators -/
def binop (op : BOp) (d e : D) (k : RR → Prop) : Prop :=
  match op, d, e with
  | .add, .int i, .int j => k (.val (.int (i + j)))
  | .add, .str x, .str y => x.length + y.length ≤ LIM ∧ k (.val (.str (x ++ y)))
  | .add, .lst xs, .lst ys => xs.length + ys.length ≤ LIM ∧ k (.fr (.lst (xs ++ ys)))
  | .add, .tup xs, .tup ys => xs.length + ys.length ≤ LIM ∧ k (.val (.tup (xs ++ ys)))
  | .add, .tpn xs, .tup ys => xs.length + ys.length ≤ LIM ∧ k (.val (.tup (xs ++ ys)))
  | .add, .tup xs, .tpn ys => xs.length + ys.length ≤ LIM ∧ k (.val (.tup (xs ++ ys)))
  | .add, .tpn xs, .tpn ys => xs.length + ys.length ≤ LIM ∧ k (.val (.tup (xs ++ ys)))
  | .sub, .int i, .int j => k (.val (.int (i - j)))
  | .mul, .int i, .int j => i.natAbs.log2 + j.natAbs.log2 < 100000000 ∧ k (.val (.int (i * j)))
  | .mul, .str x, .int j => PySem.MulOk x j ∧ k (.val (.str (PySem.Txt.mul x j)))
  | .mul, .tup xs, .int j => (xs ≠ [] ∧ 2 ≤ j ∧ j ≤ 1000 ∧ xs.length ≤ 1000) ∧ k (.val (.tup (List.replicate j.toNat xs).flatten))
  | .mul, .tpn xs, .int j => (xs ≠ [] ∧ 2 ≤ j ∧ j ≤ 1000 ∧ xs.length ≤ 1000) ∧ k (.val (.tup (List.replicate j.toNat xs).flatten))
  | .mul, .lst xs, .int j => (-(2 ^ 63) ≤ j ∧ j < 2 ^ 63 ∧ xs.length * j.toNat ≤ LIM) ∧ k (.fr (.lst (List.replicate j.toNat xs).flatten))
  | .fdiv, .int i, .int j => (0 < j ∧ j.natAbs.log2 < 9000) ∧ k (.val (.int (i / j)))
  | .mod, .int i, .int j => 0 < j ∧ k (.val (.int (i % j)))
  | .pow, .int i, .int j => (0 ≤ j ∧ j ≤ 1000000 ∧ i.natAbs < 2 ^ 64) ∧ k (.val (.int (i ^ j.toNat)))
  | _, _, _ => False

mutual
def pd : D → Option PyData
  | .non => some .none
  | .bl b => some (.bool b)
  | .int i => some (.int i)
  | .str x => some (.str x)
  | .tup ds => (pds ds).map .tuple
  | .lst ds => (pds ds).map .list
  | .rol ds => (pds ds).map .list
  | .tpn ds => (pds ds).map .tuple
  | .obj _ _ => none
  | .dct _ _ => none
def pds : List D → Option (List PyData)
  | [] => some []
  | d :: ds => match pd d, pds ds with
    | some a, some b => some (a :: b)
    | _, _ => none
end
/-- what repr takes -/
def shownOk (p : PyData) : Prop := p.showable = true ∧ p.hasDict = false ∧ p.depth ≤ 60 ∧ p.shown.length ≤ LIM
/-- a test's two ways -/
@[irreducible] def ifB (b : Bool) (x y : Prop) : Prop := match b with | true => x | false => y
def scalD : D → D → Bool
  | .non, .non => true | .non, .int _ => true | .int _, .non => true | .non, .bl _ => true | .bl _, .non => true | .non, .str _ => true | .str _, .non => true
  | .int _, .int _ => true | .bl _, .bl _ => true | .str _, .str _ => true
  | .int _, .str _ => true | .str _, .int _ => true | .bl _, .str _ => true | .str _, .bl _ => true
  | _, _ => false
def eqS : D → D → Bool
  | .non, .non => true
  | .int i, .int j => decide (i = j)
  | .bl a, .bl b => a == b
  | .str x, .str y => decide (x = y)
  | _, _ => false
/-- == of data -/
def eqD (d e : D) (k : Bool → Prop) : Prop :=
  ifB (scalD d e) (k (eqS d e)) (match pd d, pd e with
  | some a, some b => SeqAt.shaped a = true ∧ SeqAt.shaped b = true ∧ k (PyData.eqv a b)
  | _, _ => False)
def itemsOf : D → Option (List D)
  | .lst xs => some xs | .tup xs => some xs | .rol xs => some xs | .tpn xs => some xs | _ => none
def isSign (x : Str) : Option Nat := match x.cps.toList with | [c] => some c | _ => none
/-- a dict's key -/
def keyD : D → Option Key | .int i => some (.inl i) | .str x => some (.inr x) | _ => none
def hasK (k : Key) (ks : List Key) : Bool := ks.any fun z => decide (z = k)
def pairsD : List D → Option (List Key × List D)
  | [] => some ([], [])
  | .tup [k, d] :: r => match keyD k, pairsD r with
    | some k, some (ks, ds) => some (k :: ks, d :: ds)
    | _, _ => none
  | _ => none
/-- one value in a row of flat ones -/
def inD (d : D) (xs : List D) : Bool := xs.any fun y => eqS y d
def sameKind : D → D → Bool
  | .int _, .int _ => true | .str _, .str _ => true | _, _ => false
def isNonD : D → Bool | .non => true | _ => false
def isBlD (b : Bool) : D → Bool | .bl a => decide (a = b) | _ => false
def cmpop (op : COp) (d e : D) (k : Bool → Prop) : Prop :=
  match op with
  | .lt => match d, e with
    | .int i, .int j => k (decide (i < j))
    | .str x, .str y => k (decide (x.cps.toList < y.cps.toList))
    | _, _ => False
  | .le => match d, e with | .int i, .int j => k (decide (i ≤ j)) | _, _ => False
  | .gt => match d, e with | .int i, .int j => k (decide (j < i)) | _, _ => False
  | .ge => match d, e with | .int i, .int j => k (decide (j ≤ i)) | _, _ => False
  | .eq => eqD d e k
  | .ne => eqD d e fun b => k (!b)
  | .isin => match d, e with
    | d, .dct ks _ => match keyD d with | some k1 => k (hasK k1 ks) | none => False
    | .str x, .str y => match isSign x with | some c => k (decide (c ∈ y.cps.toList)) | none => False
    | d, e => match itemsOf e with
      | some xs => (∀ y ∈ xs, sameKind y d = true) ∧ flatD d = true ∧ k (inD d xs)
      | none => False
  | .notin => match d, e with
    | d, .dct ks _ => match keyD d with | some k1 => k (!hasK k1 ks) | none => False
    | .str x, .str y => match isSign x with | some c => k (!decide (c ∈ y.cps.toList)) | none => False
    | d, e => match itemsOf e with
      | some xs => (∀ y ∈ xs, sameKind y d = true) ∧ flatD d = true ∧ k (!inD d xs)
      | none => False
  | .is => match e with
    | .non => k (isNonD d)
    | .bl b => k (isBlD b d)
    | _ => False
  | .isnt => match e with
    | .non => k (!isNonD d)
    | .bl b => k (!isBlD b d)
    | _ => False
def truthD : D → Option Bool
  | .non => some false
  | .bl b => some b
  | .int i => some (i != 0)
  | .str x => if x.length ≤ LIM then some ((x.length : Int) != 0) else none
  | .lst xs => some (!xs.isEmpty)
  | .tup xs => some (!xs.isEmpty)
  | .rol xs => some (!xs.isEmpty)
  | .tpn xs => some (!xs.isEmpty)
  | .obj _ _ => none
  | .dct _ _ => none
def idxD (d : D) (i : Int) : Option D :=
  match d with
  | .lst xs => atI xs i
  | .tup xs => atI xs i
  | .rol xs => atI xs i
  | .tpn xs => atI xs i
  | .str x => if x.length ≤ LIM then (atI x.cps.toList i).map fun c => .str ⟨#[c]⟩ else none
  | _ => none
def cutD (xs : List D) (lo hi : Option Int) : List D := (xs.drop (HT.sIx xs.length 0 lo)).take (HT.sIx xs.length xs.length hi - HT.sIx xs.length 0 lo)
def slcD (d : D) (lo hi : Option Int) (k : RR → Prop) : Prop :=
  match d with
  | .lst xs => k (.fr (.lst (cutD xs lo hi)))
  | .rol xs => k (.fr (.lst (cutD xs lo hi)))
  | .tup xs => k (.val (.tup (cutD xs lo hi)))
  | .tpn xs => k (.val (.tup (cutD xs lo hi)))
  | .str z => z.length ≤ LIM ∧ k (.val (.str (cutS z lo hi)))
  | _ => False
def intsD : List D → Option (List Int)
  | [] => some []
  | .int i :: ds => (intsD ds).map (i :: ·)
  | _ => none
def strsD : List D → Option (List Str)
  | [] => some []
  | .str i :: ds => (strsD ds).map (i :: ·)
  | _ => none
def boolsD : List D → Option (List Bool)
  | [] => some []
  | .bl i :: ds => (boolsD ds).map (i :: ·)
  | _ => none
def biop (b : Bi) (ds : List D) (k : RR → Prop) : Prop :=
  match b, ds with
  | .len, [.str x] => x.length ≤ LIM ∧ k (.val (.int (x.length : Nat)))
  | .len, [.lst xs] => k (.val (.int (xs.length : Nat)))
  | .len, [.tup xs] => k (.val (.int (xs.length : Nat)))
  | .len, [.rol xs] => k (.val (.int (xs.length : Nat)))
  | .len, [.tpn xs] => k (.val (.int (xs.length : Nat)))
  | .int, [.int i] => k (.val (.int i))
  | .int, [.bl b] => k (.val (.int (if b then 1 else 0)))
  | .abs, [.int i] => k (.val (.int (if i < 0 then -i else i)))
  | .str, [.int i] => i.natAbs.log2 < 1920 ∧ k (.val (.str (toString i)))
  | .str, [.str x] => k (.val (.str x))
  | .bool, [.int i] => k (.val (.bl (i != 0)))
  | .bool, [.bl b] => k (.val (.bl b))
  | .tup, [.lst xs] => k (.val (.tpn xs))
  | .tup, [.tup xs] => k (.val (.tup xs))
  | .tup, [.tpn xs] => k (.val (.tpn xs))
  | .lst, [.lst xs] => k (.fr (.lst xs))
  | .lst, [.tup xs] => k (.fr (.lst xs))
  | .lst, [.tpn xs] => k (.fr (.lst xs))
  | .lst, [.str x] => x.length ≤ LIM ∧ k (.fr (.lst (strItems x)))
  | .sum, [.lst xs] => match intsD xs with | some ns => k (.val (.int ns.sum)) | none => False
  | .sum, [.tup xs] => match intsD xs with | some ns => k (.val (.int ns.sum)) | none => False
  | .sum, [.tpn xs] => match intsD xs with | some ns => k (.val (.int ns.sum)) | none => False
  | .min, [.lst xs] => match intsD xs with | some ns => 0 < ns.length ∧ ∀ m, m ∈ ns → (∀ y, y ∈ ns → m ≤ y) → k (.val (.int m)) | none => False
  | .max, [.lst xs] => match intsD xs with | some ns => 0 < ns.length ∧ ∀ m, m ∈ ns → (∀ y, y ∈ ns → y ≤ m) → k (.val (.int m)) | none => False
  | .all, [.lst xs] => match boolsD xs with | some bs => k (.val (.bl (bs.all id))) | none => False
  | .any, [.lst xs] => match boolsD xs with | some bs => k (.val (.bl (bs.any id))) | none => False
  | .sorted, [.lst xs] => match strsD xs with | some ys => ys.length < 64 ∧ ∀ zs : List Str, zs.Perm ys → PyProof.Rows.sortedS zs = true → k (.fr (.lst (zs.map .str))) | none => False
  | .dict, [.lst xs] => match pairsD xs with | some (ks, ds) => ks.Nodup ∧ k (.fr (.dct ks ds)) | none => False
  | .min2, [.int i, .int j] => k (.val (.int (if j < i then j else i)))
  | .max2, [.int i, .int j] => k (.val (.int (if j > i then j else i)))
  | .repr, [d] => match pd d with | some p => shownOk p ∧ k (.val (.str p.shown)) | none => False
  | _, _ => False
/-- what stands ahead of the dot -/
def miT : Mi → D → Bool
  | .split, .str _ => true | .join, .str _ => true | .sindex, .str _ => true | .tindex, .tpn _ => true | .lindex, .lst _ => true | .cnt, .lst _ => true
  | _, _ => false
def miop (m : Mi) (d : D) (ds : List D) (k : RR → Prop) : Prop :=
  match m, d, ds with
  | .split, .str a, [.str b] => ((b.length == 0) = false ∧ a.length + 2 ≤ LIM) ∧ k (.fr (.lst ((Txt.split a b).map .str)))
  | .join, .str a, [.lst xs] => match strsD xs with | some ys => (ys.map (·.length)).sum + ys.length * a.length ≤ LIM ∧ k (.val (.str (Txt.join a ys))) | none => False
  | .sindex, .str a, [.str b] => ∃ j : Nat, Txt.index0 a b = some j ∧ k (.val (.int (j : Nat)))
  | .tindex, .tpn xs, [.str z] => match strsD xs with | some ys => ∃ j : Nat, ys[j]? = some z ∧ (∀ m, m < j → ys[m]? ≠ some z) ∧ k (.val (.int (j : Nat))) | none => False
  | .lindex, .lst xs, [.str z] => match strsD xs with | some ys => ∃ j : Nat, ys[j]? = some z ∧ (∀ m, m < j → ys[m]? ≠ some z) ∧ k (.val (.int (j : Nat))) | none => False
  | .lindex, .lst xs, [.int z] => match intsD xs with | some ys => ∃ j : Nat, ys[j]? = some z ∧ (∀ m, m < j → ys[m]? ≠ some z) ∧ k (.val (.int (j : Nat))) | none => False
  | .cnt, .lst xs, [.str z] => match strsD xs with | some ys => k (.val (.int (ys.count z : Nat))) | none => False
  | .cnt, .lst xs, [.int z] => match intsD xs with | some ys => k (.val (.int (ys.count z : Nat))) | none => False
  | _, _, _ => False
def isiD (isi : Nat → Tn → Option Bool) (t : Tn) : D → Option Bool
  | .non => some false
  | .bl _ => some (decide (t = .bool) || decide (t = .int))
  | .int _ => some (decide (t = .int))
  | .str _ => some (decide (t = .str))
  | .tup _ => some (decide (t = .tup))
  | .tpn _ => some (decide (t = .tup))
  | .lst _ => some (decide (t = .lst))
  | .rol _ => some (decide (t = .lst))
  | .obj c _ => isi c t
  | .dct _ _ => some (decide (t = .dct))
/-- the different ones of a row, in their order -/
def dst {κ : Type} [BEq κ] (ys : List κ) : List κ := ys.foldl (fun a x => if a.any (· == x) = true then a else a ++ [x]) []

/-! ### expressions -/
/-- a result, for good -/
def frz (r : RR) (env : Ev) (Q : D → Ev → Prop) : Prop :=
  match r with
  | .val d => Q d env
  | .fr d => Q d env
  | .sl i => match env[i]? with
    | some (.own d) => Q d (env.set i (.val d))
    | some (.val d) => Q d env
    | _ => False
def rdK (env : Ev) (r : RR) (k : D → Prop) : Prop := match rdR env r with | some d => k d | none => False
def rdLs (env : Ev) : List RR → Option (List D)
  | [] => some []
  | r :: rs => match rdR env r, rdLs env rs with
    | some d, some ds => some (d :: ds)
    | _, _ => none
def rdKs (env : Ev) (rs : List RR) (k : List D → Prop) : Prop := match rdLs env rs with | some ds => k ds | none => False
/-- the changed objects are put back where they are owned -/
def putO : List Bool → List RR → List D → Ev → Ev
  | true :: io, .sl i :: rs, o :: os, env => putO io rs os (env.set i (.own o))
  | _ :: io, _ :: rs, _ :: os, env => putO io rs os env
  | _, _, _, env => env
/-- may these be handed on? a changed parameter: an owned slot's object or a new one; any other: a value, or (where the answer is flat) a slot's object -/
def okO (env : Ev) : List Bool → List RR → List Nat → Bool
  | [], [], _ => true
  | true :: io, .sl i :: rs, us => (match env[i]? with | some (.own _) => true | _ => false) && !us.contains i && okO env io rs (i :: us)
  | true :: io, .fr _ :: rs, us => okO env io rs us
  | false :: io, .val _ :: rs, us => okO env io rs us
  | false :: io, .sl i :: rs, us => !us.contains i && okO env io rs (i :: us)
  | _, _, _ => false
def borO (env : Ev) : List Bool → List RR → Bool
  | false :: io, .sl i :: rs => (match env[i]? with | some (.own _) => true | _ => false) || borO env io rs
  | _ :: io, _ :: rs => borO env io rs
  | _, _ => false
def flatO : List Bool → List D → Bool
  | true :: io, o :: os => flatC o && flatO io os
  | false :: io, _ :: os => flatO io os
  | _, _ => true
@[irreducible] def callK (G : Gt) (f : Nat) (rs : List RR) (env : Ev) (Q : RR → Ev → Prop) : Prop :=
  match G.fi[f]? with
  | none => False
  | some i => okO env i.io rs [] = true ∧ rdKs env rs fun ds => (G.sp f).sp ds fun fr d outs => outs.length = i.io.length ∧
      (borO env i.io rs = true → fr = false ∧ flatD d = true ∧ flatO i.io outs = true) ∧ Q (if fr then .fr d else .val d) (putO i.io rs outs env)
/-- a new instance, then its __init__ -/
@[irreducible] def makeK (G : Gt) (c f : Nat) (rs : List RR) (env : Ev) (Q : RR → Ev → Prop) : Prop :=
  callK G f (.sl env.length :: rs) (env ++ [.own (.obj c [])]) fun r e2 => r = .val .non ∧ match e2.getLast? with
    | some (.own o) => Q (.fr o) e2.dropLast
    | _ => False
/-- 0 .. n - 1 -/
def rgD (n : Int) : List D := (List.range n.toNat).map fun i => .int (i : Nat)
/-- an own operator: the instance on the left, an int on the right -/
def dunOk (c : Nat) : List D → Bool
  | [.obj c' _, .int _] => c' == c
  | _ => false
def isObj (c : Nat) : D → Bool | .obj c' _ => c' == c | _ => false
def allV (rs : List RR) : Bool := rs.all fun r => match r with | .val _ => true | _ => false
def srcOk (src : List (RR × D)) (own : List Nat) : Bool := src.all fun p => match p.1 with | .sl i => !own.contains i | _ => true
/-- a target takes a datum -/
def bindT : Tg → D → Ev → Option Ev
  | .nm i, d, env => cond (decide (i < env.length)) (some (env.set i (.val d))) none
  | .tp ts, d, env => match d with
    | .tup ds => bindTs ts ds env
    | .lst ds => bindTs ts ds env
    | .tpn ds => bindTs ts ds env
    | _ => none
where bindTs : List Tg → List D → Ev → Option Ev
  | [], [], env => some env
  | t :: ts, d :: ds, env => match bindT t d env with
    | some e => bindTs ts ds e
    | none => none
  | _, _, _ => none
def wipeE (env : Ev) : List Nat → Ev
  | [] => env
  | i :: is => (wipeE env is).set i .un
def backE (env0 : Ev) (env : Ev) : List Nat → Ev
  | [] => env
  | i :: is => (backE env0 env is).set i (env0.getD i .un)
def noOwn (env : Ev) (is : List Nat) : Bool := is.all fun i => match env[i]? with | some (.own _) => false | some _ => true | none => false
/-- what is walked stays as it is -/
def chk (src : List (RR × D)) (env : Ev) : Prop := ∀ p ∈ src, rdR env p.1 = some p.2
def enumD (n : Nat) : List D → List D
  | [] => []
  | d :: ds => .tup [.int (n : Int), d] :: enumD (n + 1) ds
def stepD (i k : Int) (n : Nat) : List D := (List.range n).map fun m => .int (i + (m : Nat) * k)
def rngD (lo : Int) (n : Nat) : List D := (List.range n).map fun i => .int (lo + (i : Nat))
@[irreducible] def lcLoop (turn : D → Ev → (D → Ev → Prop) → (Ev → Prop) → Prop) (src : List (RR × D)) (Q : List D → Ev → Prop) : List D → List D → Ev → Prop
  | [], acc, env => chk src env ∧ Q acc env
  | d :: ds, acc, env => chk src env ∧ acc.length < LIM ∧ turn d env (fun y env' => lcLoop turn src Q ds (acc ++ [y]) env') (fun env' => lcLoop turn src Q ds acc env')

/-- a table's entry -/
def tabAt : List (Str × Int) → Str → Option Int
  | [], _ => none
  | (k, n) :: r, z => if z = k then some n else tabAt r z
/-- an own list stands there -/
def lstAt (i : Nat) (env : Ev) : Prop := match env[i]? with | some (.own (.lst _)) => True | _ => False
/-- the slots, reckoned out (a mark for whoever steps through) -/
@[irreducible] def forceK (env : Ev) (k : Ev → Prop) : Prop := k env
abbrev WR := Ev → (RR → Ev → Prop) → Prop
abbrev WT := Ev → (Bool → Ev → Prop) → Prop
/-- a value as a test -/
def tst (w : WR) : WT := fun env Q => w env fun r e1 => rdK e1 r fun d => match truthD d with | some b => Q b e1 | none => False
def dfl (w : WR) : WR × WT := (w, tst w)
def glbW : Option (Str × D) → WR
  | some p => fun env Q => Q (.val p.2) env
  | none => fun _ _ => False
/-- a part of an f-string as a text -/
def txtD : D → Option Str
  | .str y => if y.length ≤ LIM then some y else none
  | .int i => if i.natAbs.log2 < 1920 then some (toString i : Str) else none
  | _ => none
mutual
def wp2 (G : Gt) : E → WR × WT
  | .var i => dfl fun env Q => match env[i]? with
    | some (.val d) => Q (.val d) env
    | some (.own _) => Q (.sl i) env
    | _ => False
  | .lit d => dfl fun env Q => Q (.val d) env
  | .glob g => dfl (glbW G.gl[g]?)
  | .bin op a b => dfl fun env Q => (wp2 G a).1 env fun r1 e1 => (wp2 G b).1 e1 fun r2 e2 => rdK e2 r1 fun d1 => rdK e2 r2 fun d2 => binop op d1 d2 fun r => Q r e2
  | .neg a => dfl fun env Q => (wp2 G a).1 env fun r e1 => rdK e1 r fun d => match d with | .int i => Q (.val (.int (-i))) e1 | _ => False
  | .nott a => (fun env Q => (wp2 G a).1 env fun r e1 => rdK e1 r fun d => match d with | .bl b => Q (.val (.bl (!b))) e1 | _ => False,
      fun env Q => (wp2 G a).2 env fun b e1 => Q (!b) e1)
  | .band es => wpAnd G es
  | .bor es => wpOr G es
  | .ite c a b => (fun env Q => (wp2 G c).2 env fun t e1 => ifB t ((wp2 G a).1 e1 Q) ((wp2 G b).1 e1 Q),
      fun env Q => (wp2 G c).2 env fun t e1 => ifB t ((wp2 G a).2 e1 Q) ((wp2 G b).2 e1 Q))
  | .cmp op a b => dfl fun env Q => (wp2 G a).1 env fun r1 e1 => (wp2 G b).1 e1 fun r2 e2 => rdK e2 r1 fun d1 => rdK e2 r2 fun d2 => cmpop op d1 d2 fun t => Q (.val (.bl t)) e2
  | .chain o1 o2 a b c => dfl fun env Q => (wp2 G a).1 env fun r1 e1 => (wp2 G b).1 e1 fun r2 e2 => rdK e2 r1 fun d1 => rdK e2 r2 fun d2 => cmpop o1 d1 d2 fun t =>
      ifB t ((wp2 G c).1 e2 fun r3 e3 => rdK e3 r2 fun d2' => rdK e3 r3 fun d3 => cmpop o2 d2' d3 fun t' => Q (.val (.bl t')) e3) (Q (.val (.bl false)) e2)
  | .tup as => dfl fun env Q => wpL G as env fun rs e1 => rdKs e1 rs fun ds => ds.length ≤ LIM ∧ allV rs = true ∧ Q (.val (.tup ds)) e1
  | .lst as => dfl fun env Q => wpL G as env fun rs e1 => rdKs e1 rs fun ds => ds.length ≤ LIM ∧ allV rs = true ∧ Q (.fr (.lst ds)) e1
  | .idx a i => dfl fun env Q => (wp2 G a).1 env fun r1 e1 => (wp2 G i).1 e1 fun r2 e2 => rdK e2 r1 fun d1 => rdK e2 r2 fun d2 => match d2 with
    | .int n => ∃ d, idxD d1 n = some d ∧ Q (.val d) e2
    | _ => False
  | .slc a lo hi => dfl fun env Q => (wp2 G a).1 env fun r1 e1 => wpO G lo e1 fun l e2 => wpO G hi e2 fun h e3 => rdK e3 r1 fun d1 => slcD d1 l h fun r => Q r e3
  | .fld a c k => dfl fun env Q => (wp2 G a).1 env fun r e1 => rdK e1 r fun d => match d with
    | .obj c' ds => c' = c ∧ ∃ x, ds[k]? = some x ∧ Q (.val x) e1
    | _ => False
  | .call f as => dfl fun env Q => wpL G as env fun rs e1 => callK G f rs e1 Q
  | .meth c f o as => dfl fun env Q => wpA G o env fun r e1 => rdK e1 r fun d => isObj c d = true ∧ wpL G as e1 fun rs e2 => callK G f (r :: rs) e2 Q
  | .make c f as => dfl fun env Q => wpL G as env fun rs e1 => makeK G c f rs e1 Q
  | .bi b as => dfl fun env Q => wpL G as env fun rs e1 => rdKs e1 rs fun ds => biop b ds fun r => Q r e1
  | .mi m o as => dfl fun env Q => wpA G o env fun r e1 => rdK e1 r fun d => miT m d = true ∧ wpL G as e1 fun rs e2 => rdK e2 r fun d1 => rdKs e2 rs fun ds => miop m d1 ds fun r => Q r e2
  | .isi t a => dfl fun env Q => wpA G a env fun r e1 => rdK e1 r fun d => match isiD G.isi t d with | some b => Q (.val (.bl b)) e1 | none => False
  | .nset a => dfl fun env Q => wpA G a env fun r e1 => rdK e1 r fun d => match d with
    | .lst xs => match strsD xs with | some ys => ys.length < 4000 ∧ Q (.val (.int ((dst ys).length : Nat))) e1 | none => (match intsD xs with | some ns => ns.length < 4000 ∧ Q (.val (.int ((dst ns).length : Nat))) e1 | none => False)
    | .tup xs => match strsD xs with | some ys => ys.length < 4000 ∧ Q (.val (.int ((dst ys).length : Nat))) e1 | none => False
    | .tpn xs => match strsD xs with | some ys => ys.length < 4000 ∧ Q (.val (.int ((dst ys).length : Nat))) e1 | none => False
    | _ => False
  | .makeS c f a => dfl fun env Q => wpA G a env fun r e1 => rdK e1 r fun d => match itemsOf d with
    | some ds => ds.length ≤ LIM ∧ makeK G c f [.val (.tup ds)] e1 Q
    | none => False
  | .dun _ c f a b => dfl fun env Q => wpA G a env fun r1 e1 => wpA G b e1 fun r2 e2 => rdKs e2 [r1, r2] fun ds => dunOk c ds = true ∧ callK G f [r1, r2] e2 Q
  | .lrng a => dfl fun env Q => wpA G a env fun r e1 => rdK e1 r fun d => match d with
    | .int n => (0 ≤ n ∧ n ≤ 16777216) ∧ Q (.fr (.lst (rgD n))) e1
    | _ => False
  | .lrng3 as => dfl fun env Q => wpL G as env fun rs e1 => rdKs e1 rs fun ds => match ds with
    | [.int i, .int j, .int k] => ∃ n : Nat, (RgC i j k n ∧ n ≤ 16777216) ∧ Q (.fr (.lst (stepD i k n))) e1
    | _ => False
  | .lenO c f a => dfl fun env Q => wpA G a env fun r e1 => rdK e1 r fun d => isObj c d = true ∧ callK G f [r] e1 fun r2 e2 => match r2 with | .val (.int n) => (0 ≤ n ∧ n ≤ 16777216) ∧ Q (.val (.int n)) e2 | _ => False
  | .pop i a => dfl fun env Q => lstAt i env ∧ wpA G a env fun r e1 => rdK e1 r fun d => match d, e1[i]? with
    | .int n, some (.own (.lst ds)) => (0 ≤ n ∧ n < 16777216) ∧ ∃ x, ds[n.toNat]? = some x ∧ Q (.val x) (e1.set i (.own (.lst (ds.eraseIdx n.toNat))))
    | _, _ => False
  | .rev a => dfl fun env Q => wpA G a env fun r e1 => rdK e1 r fun d => match d with
    | .lst xs => Q (.fr (.lst xs.reverse)) e1
    | .tup xs => 1 ≤ xs.length ∧ Q (.val (.tup xs.reverse)) e1
    | .tpn xs => 1 ≤ xs.length ∧ Q (.val (.tup xs.reverse)) e1
    | _ => False
  | .dnew => dfl fun env Q => Q (.fr (.dct [] [])) env
  | .cget g a _ => dfl fun env Q => wpA G a env fun r e1 => rdK e1 r fun d => match d with
    | .str z => ∃ n, tabAt ((G.tb[g]?).getD ("", [])).2 z = some n ∧ Q (.val (.int n)) e1
    | _ => False
  | .strO c f a => dfl fun env Q => wpA G a env fun r e1 => rdK e1 r fun d => isObj c d = true ∧ callK G f [r] e1 fun r2 e2 => match r2 with | .val (.str y) => Q (.val (.str y)) e2 | _ => False
  | .fst es => dfl fun env Q => wpJ G es Str.empty env fun y e1 => Q (.val (.str y)) e1
  | .makeV c f as => dfl fun env Q => wpL G as env fun rs e1 => rdKs e1 rs fun ds => allV rs = true ∧ ds.length ≤ LIM ∧ makeK G c f [.val (.tup ds)] e1 Q
  | .lc elt tg it ifs own => dfl fun env Q => wpI G it env fun src items e1 => noOwn e1 own = true ∧ srcOk src own = true ∧
      forceK (wipeE e1 own) fun e0 => lcLoop (fun d e ky kn => match bindT tg d e with
        | some e2 => wpIfs G ifs e2 fun b e3 => ifB b (wpA G elt e3 (fun r e4 => match r with | .val y => ky y (wipeE e4 own) | _ => False)) (kn (wipeE e3 own))
        | none => False) src (fun acc e2 => Q (.fr (.lst acc)) (backE e1 e2 own)) items [] e0
def wpJ (G : Gt) : List E → Str → Ev → (Str → Ev → Prop) → Prop
  | [] => fun acc env Q => Q acc env
  | e :: es => fun acc env Q => (wp2 G e).1 env fun r e1 => rdK e1 r fun d => match txtD d with | some y => (acc ++ y).length ≤ LIM ∧ wpJ G es (acc ++ y) e1 Q | none => False
def wpAnd (G : Gt) : List E → WR × WT
  | [] => (fun _ _ => False, fun _ _ => False)
  | e :: es => match es with
    | [] => wp2 G e
    | _ :: _ => (fun env Q => (wp2 G e).1 env fun r e1 => rdK e1 r fun d => match d with
        | .bl b => ifB b ((wpAnd G es).1 e1 Q) (Q (.val (.bl false)) e1)
        | _ => False,
      fun env Q => (wp2 G e).2 env fun b e1 => ifB b ((wpAnd G es).2 e1 Q) (Q false e1))
def wpOr (G : Gt) : List E → WR × WT
  | [] => (fun _ _ => False, fun _ _ => False)
  | e :: es => match es with
    | [] => wp2 G e
    | _ :: _ => (fun env Q => (wp2 G e).1 env fun r e1 => rdK e1 r fun d => match d with
        | .bl b => ifB b (Q (.val (.bl true)) e1) ((wpOr G es).1 e1 Q)
        | _ => False,
      fun env Q => (wp2 G e).2 env fun b e1 => ifB b (Q true e1) ((wpOr G es).2 e1 Q))
def wpIfs (G : Gt) : List E → WT
  | [] => fun env Q => Q true env
  | e :: es => match es with
    | [] => (wp2 G e).2
    | _ :: _ => fun _ _ => False
def wpO (G : Gt) : List E → Ev → (Option Int → Ev → Prop) → Prop
  | [] => fun env Q => Q none env
  | e :: es => match es with
    | [] => fun env Q => (wp2 G e).1 env fun r e1 => rdK e1 r fun d => match d with
      | .int i => Q (some i) e1
      | _ => False
    | _ :: _ => fun _ _ => False
def wpA (G : Gt) : A → WR
  | .v e => fun env Q => (wp2 G e).1 env fun r e1 => frz r e1 fun d e2 => Q (.val d) e2
  | .p e => (wp2 G e).1
def wpL (G : Gt) : List A → Ev → (List RR → Ev → Prop) → Prop
  | [] => fun env Q => Q [] env
  | a :: as => fun env Q => wpA G a env fun r e1 => wpL G as e1 fun rs e2 => Q (r :: rs) e2
def wpI (G : Gt) : Wk → Ev → (List (RR × D) → List D → Ev → Prop) → Prop
  | .it a => fun env Q => wpA G a env fun r e1 => rdK e1 r fun d => match d with
    | .lst xs => Q [(r, .lst xs)] xs e1
    | .tup xs => Q [(r, .tup xs)] xs e1
    | .tpn xs => Q [(r, .tpn xs)] xs e1
    | .rol xs => Q [(r, .rol xs)] xs e1
    | .str z => Q [] (strItems z) e1
    | _ => False
  | .rng a => fun env Q => wpA G a env fun r e1 => rdKs e1 [r] fun ds => match ds with
    | [.int j] => (-(2 ^ 62) ≤ j ∧ j < 2 ^ 62) ∧ Q [] (rngD 0 j.toNat) e1
    | _ => False
  | .rng2 a b => fun env Q => wpA G a env fun r1 e1 => wpA G b e1 fun r2 e2 => rdKs e2 [r1, r2] fun ds => match ds with
    | [.int i, .int j] => (-(2 ^ 62) ≤ i ∧ i < 2 ^ 62 ∧ -(2 ^ 62) ≤ j ∧ j < 2 ^ 62) ∧ Q [] (rngD i (j - i).toNat) e2
    | _ => False
  | .enum a => fun env Q => wpA G a env fun r e1 => rdK e1 r fun d => match d with
    | .lst xs => Q [(r, .lst xs)] (enumD 0 xs) e1
    | .tup xs => Q [(r, .tup xs)] (enumD 0 xs) e1
    | .tpn xs => Q [(r, .tpn xs)] (enumD 0 xs) e1
    | _ => False
  | .zip a b => fun env Q => wpA G a env fun r1 e1 => wpA G b e1 fun r2 e2 => rdK e2 r1 fun d1 => rdK e2 r2 fun d2 => match d1, d2 with
    | .lst xs, .lst ys => Q [(r1, .lst xs), (r2, .lst ys)] (List.zipWith (fun x y => .tup [x, y]) xs ys) e2
    | .tup xs, .tup ys => Q [(r1, .tup xs), (r2, .tup ys)] (List.zipWith (fun x y => .tup [x, y]) xs ys) e2
    | .tpn xs, .tup ys => Q [(r1, .tpn xs), (r2, .tup ys)] (List.zipWith (fun x y => .tup [x, y]) xs ys) e2
    | .tpn xs, .lst ys => Q [(r1, .tpn xs), (r2, .lst ys)] (List.zipWith (fun x y => .tup [x, y]) xs ys) e2
    | .tup xs, .lst ys => Q [(r1, .tup xs), (r2, .lst ys)] (List.zipWith (fun x y => .tup [x, y]) xs ys) e2
    | .tup xs, .tpn ys => Q [(r1, .tup xs), (r2, .tpn ys)] (List.zipWith (fun x y => .tup [x, y]) xs ys) e2
    | .tpn xs, .tpn ys => Q [(r1, .tpn xs), (r2, .tpn ys)] (List.zipWith (fun x y => .tup [x, y]) xs ys) e2
    | _, _ => False
end
abbrev wpR (G : Gt) (e : E) : WR := (wp2 G e).1
abbrev wpT (G : Gt) (e : E) : WT := (wp2 G e).2
theorem ifB_t {A B : Prop} (h : ifB true A B) : A := by unfold ifB at h; exact h
theorem ifB_f {A B : Prop} (h : ifB false A B) : B := by unfold ifB at h; exact h
theorem ifBT {A B : Prop} (h : A) : ifB true A B := by unfold ifB; exact h
theorem ifBF {A B : Prop} (h : B) : ifB false A B := by unfold ifB; exact h
theorem lcLoop_n {turn : D → Ev → (D → Ev → Prop) → (Ev → Prop) → Prop} {src : List (RR × D)} {Q : List D → Ev → Prop} {acc : List D} {env : Ev} (h : lcLoop turn src Q [] acc env) : chk src env ∧ Q acc env := by with_unfolding_all exact h
theorem lcLoop_c {turn : D → Ev → (D → Ev → Prop) → (Ev → Prop) → Prop} {src : List (RR × D)} {Q : List D → Ev → Prop} {d : D} {ds acc : List D} {env : Ev} (h : lcLoop turn src Q (d :: ds) acc env) :
    chk src env ∧ acc.length < LIM ∧ turn d env (fun y env' => lcLoop turn src Q ds (acc ++ [y]) env') (fun env' => lcLoop turn src Q ds acc env') := by with_unfolding_all exact h
theorem lcLoop_ni {turn : D → Ev → (D → Ev → Prop) → (Ev → Prop) → Prop} {src : List (RR × D)} {Q : List D → Ev → Prop} {acc : List D} {env : Ev} (h : chk src env ∧ Q acc env) : lcLoop turn src Q [] acc env := by with_unfolding_all exact h
theorem lcLoop_ci {turn : D → Ev → (D → Ev → Prop) → (Ev → Prop) → Prop} {src : List (RR × D)} {Q : List D → Ev → Prop} {d : D} {ds acc : List D} {env : Ev}
    (h : chk src env ∧ acc.length < LIM ∧ turn d env (fun y env' => lcLoop turn src Q ds (acc ++ [y]) env') (fun env' => lcLoop turn src Q ds acc env')) : lcLoop turn src Q (d :: ds) acc env := by with_unfolding_all exact h
theorem forceK_o {env : Ev} {k : Ev → Prop} (h : forceK env k) : k env := by unfold forceK at h; exact h
theorem forceK_eq (env : Ev) (k : Ev → Prop) : forceK env k = k env := by unfold forceK; rfl
end PV

/-! PV: the operators keep what their data say. -/
namespace PV
open PySem L2
theorem lim_eq : (LIM : Nat) = sizeLine := by rw [sizeLine_eq]
theorem lim_le {n : Nat} (h : n ≤ LIM) : n ≤ sizeLine := by rw [← lim_eq]; exact h

/-- what a two-place operation must keep -/
def OpS (S : Sg) (r : R2) (op : D → D → (RR → Prop) → Prop) : Prop :=
  ∀ (Z F : Hp) (env : Ev) (σ : L2.St) (H : Hp) (d e : D) (x y : V) (Q : RR → Prop) (Q' : VK), SR S Z F env σ H → Rd S F H d x → Rd S F H e y → op d e Q →
    (∀ F' H' v r, Q r → Same F F' → SR S Z F' env σ H' → RRel S Z F' H' σ env r v → Q' v H') → r x y H Q'
def OpB (S : Sg) (r : R2) (op : D → D → (Bool → Prop) → Prop) : Prop :=
  ∀ (Z F : Hp) (env : Ev) (σ : L2.St) (H : Hp) (d e : D) (x y : V) (Q : Bool → Prop) (Q' : VK), SR S Z F env σ H → Rd S F H d x → Rd S F H e y → op d e Q →
    (∀ b, Q b → Q' (.bl b) H) → r x y H Q'
/-- a call by values -/
def OpN (S : Sg) (r : List V → Hp → VK → Prop) (op : List D → (RR → Prop) → Prop) : Prop :=
  ∀ (Z F : Hp) (env : Ev) (σ : L2.St) (H : Hp) (ds : List D) (vs : List V) (Q : RR → Prop) (Q' : VK), SR S Z F env σ H → Paired (Rd S F H) ds vs → op ds Q →
    (∀ F' H' v r, Q r → Same F F' → SR S Z F' env σ H' → RRel S Z F' H' σ env r v → Q' v H') → r vs H Q'

section
variable {S : Sg} {Z F H : Hp} {env : Ev} {σ : L2.St}
theorem same_id (s : SR S Z F env σ H) : Same F F := Same.refl F
/-- an answer that needs no heap -/
theorem fin_val {d : D} {v : V} {Q : RR → Prop} {Q' : VK} (s : SR S Z F env σ H) (q : Q (.val d)) (r : Rep S F d v) (k : ∀ F' H' v r, Q r → Same F F' → SR S Z F' env σ H' → RRel S Z F' H' σ env r v → Q' v H') : Q' v H :=
  k F H v (.val d) q (Same.refl F) s r
/-- a new list -/
theorem fin_new {ds : List D} {xs : List V} {Q : RR → Prop} {Q' : VK} (s : SR S Z F env σ H) (q : Q (.fr (.lst ds))) (r : Reps S F ds xs) (k : ∀ F' H' v r, Q r → Same F F' → SR S Z F' env σ H' → RRel S Z F' H' σ env r v → Q' v H') :
    ∀ p, H p = none → Q' (.ref p) (upd H p (.lst xs)) := fun p hp =>
  k F _ _ (.fr (.lst ds)) q (Same.refl F) (sr_newH s hp) (mine_new s hp ⟨xs, rfl, r⟩)
/-- a new tuple -/
theorem fin_tup {ds : List D} {xs : List V} {Q : RR → Prop} {Q' : VK} (s : SR S Z F env σ H) (q : Q (.val (.tup ds))) (r : Reps S F ds xs) (k : ∀ F' H' v r, Q r → Same F F' → SR S Z F' env σ H' → RRel S Z F' H' σ env r v → Q' v H') :
    ∀ p, H p = none → Q' (.ref p) (upd H p (.tup xs)) := fun p hp =>
  k _ _ _ (.val (.tup ds)) q (same_new (fresh_F s hp)) (sr_newF s hp) ⟨p, xs, rfl, SqT.of upd_same, Reps.mono (same_new (fresh_F s hp)) _ _ r⟩
/-- a list or tuple that is known for good: its items too -/
theorem rd_items {d : D} {v : V} {xs : List D} (s : SR S Z F env σ H) (h : Rd S F H d v) (e : itemsOf d = some xs) : ∃ a ys, v = .ref a ∧ (SqL S.K H a ys ∨ SqT S.K H a ys) ∧ Reps S F xs ys := by
  cases d with
  | lst zs => cases e; obtain ⟨a, ys, e1, h1, h2⟩ := h.lst s.same; exact ⟨a, ys, e1, .inl (SqL.of h1), h2⟩
  | tup zs => cases e; obtain ⟨a, ys, e1, h1, h2⟩ := h.tup s.same; exact ⟨a, ys, e1, .inr h1, h2⟩
  | rol zs => cases e; obtain ⟨a, ys, e1, h1, h2⟩ := h.rol s.same; exact ⟨a, ys, e1, .inl h1, h2⟩
  | tpn zs => cases e; obtain ⟨a, ys, e1, _, h1, h2⟩ := h.tpn s.same; exact ⟨a, ys, e1, .inr h1, h2⟩
  | _ => cases e
end

def rAddA (K : PySem.W.Frag) : R2 := fun x y H Q => ((∃ i j, x = .int i ∧ y = .int j ∧ Q (.int (i + j)) H) ∨ (∃ i j, x = .str i ∧ y = .str j ∧ i.length + j.length ≤ sizeLine ∧ Q (.str (i ++ j)) H)) ∨ (rCat x y H Q ∨ rCatA K x y H Q)
theorem op_addA {X : Cx} : OpR X (binaryOp .Add) (rAddA X.K) := (op_add.or op_add_str).or (op_cat.or op_catA)
theorem tup_of {S : Sg} {F : Hp} {a : Addr} {xs : List V} {ds : List D} (h : SqT S.K F a xs) (r : Reps S F ds xs) : Rep S F (.tup ds) (.ref a) := ⟨a, xs, rfl, h, r⟩
/-- a tuple's reading, with or without a known dict -/
def TupR (S : Sg) (F H : Hp) (ds : List D) (x : V) : Prop := ∃ a us, x = .ref a ∧ SqT S.K H a us ∧ SqT S.K F a us ∧ Reps S F ds us
theorem tupR_of {S : Sg} {F H : Hp} {ds : List D} {x : V} (sf : Same F H) (h : Rd S F H (.tup ds) x) : TupR S F H ds x := by
  rcases h with ⟨a, xs, e, h1, h2⟩ | ⟨_, _, _, _, h⟩
  · exact ⟨a, xs, e, sqt_mono sf h1, h1, h2⟩
  · exact False.elim h
theorem tpnR_of {S : Sg} {F H : Hp} {ds : List D} {x : V} (sf : Same F H) (h : Rd S F H (.tpn ds) x) : TupR S F H ds x := by
  rcases h with ⟨a, xs, e, ⟨o, h1, h0⟩, h2⟩ | ⟨_, _, _, _, h⟩
  · exact ⟨a, xs, e, .inl (.inr ⟨o, sf _ _ h1⟩), .inl (.inr ⟨o, h1⟩), h2⟩
  · exact False.elim h
theorem two_cat {S : Sg} {Z F H : Hp} {env : Ev} {σ : L2.St} {xs ys : List D} {x y : V} {Q : RR → Prop} {Q' : VK} (s : SR S Z F env σ H) (h1 : xs.length + ys.length ≤ LIM) (h : Q (.val (.tup (xs ++ ys)))) (rx : TupR S F H xs x) (ry : TupR S F H ys y)
    (k : ∀ F' H' v r, Q r → Same F F' → SR S Z F' env σ H' → RRel S Z F' H' σ env r v → Q' v H') : rCatA S.K x y H Q' := by
  obtain ⟨a, us, rfl, ha, fa, ra⟩ := rx
  obtain ⟨b, ws, rfl, hb, fb, rb⟩ := ry
  refine ⟨a, b, us, ws, rfl, rfl, ha, hb, by rw [ra.length, rb.length]; exact lim_le h1, fun z => ?_, fun _ z => ?_, fun _ _ => fin_tup s h (ra.append rb) k⟩
  · subst z
    have e0 := List.length_eq_zero_iff.mp ra.length.symm
    subst e0
    exact fin_val s h (tup_of fb rb) k
  · subst z
    have e0 := List.length_eq_zero_iff.mp rb.length.symm
    subst e0
    rw [List.append_nil] at h
    exact fin_val s h (tup_of fa ra) k
theorem s_add {S : Sg} : OpS S (rAddA S.K) (binop .add) := by
  intro Z F env σ H d e x y Q Q' s hd he h k
  cases d <;> cases e <;> first
    | exact False.elim h
    | skip
  · rw [hd.int, he.int]; exact .inl (.inl ⟨_, _, rfl, rfl, fin_val s h rfl k⟩)
  · obtain ⟨h1, h⟩ := h
    rw [hd.str, he.str]; exact .inl (.inr ⟨_, _, rfl, rfl, lim_le h1, fin_val s h rfl k⟩)
  · exact .inr (.inr (two_cat s h.1 h.2 (tupR_of s.same hd) (tupR_of s.same he) k))
  · exact .inr (.inr (two_cat s h.1 h.2 (tupR_of s.same hd) (tpnR_of s.same he) k))
  · obtain ⟨h1, h⟩ := h
    obtain ⟨a, xs, rfl, hx, rx⟩ := hd.lst s.same
    obtain ⟨b, ys, rfl, hy, ry⟩ := he.lst s.same
    exact .inr (.inl ⟨a, b, xs, ys, rfl, rfl, hx, hy, by rw [rx.length, ry.length]; exact lim_le h1, fin_new s h (rx.append ry) k⟩)
  · exact .inr (.inr (two_cat s h.1 h.2 (tpnR_of s.same hd) (tupR_of s.same he) k))
  · exact .inr (.inr (two_cat s h.1 h.2 (tpnR_of s.same hd) (tpnR_of s.same he) k))
theorem s_sub {S : Sg} : OpS S (rI0 fun i j => .int (i - j)) (binop .sub) := by
  intro Z F env σ H d e x y Q Q' s hd he h k
  cases d <;> cases e <;> first
    | exact False.elim h
    | skip
  rw [hd.int, he.int]; exact ⟨_, _, rfl, rfl, fin_val s h rfl k⟩
def rMulS : R2 := fun x y H Q => ∃ a i, x = .str a ∧ y = .int i ∧ PySem.MulOk a i ∧ Q (.str (PySem.Txt.mul a i)) H
theorem op_mulS {X : Cx} : OpR X (binaryOp .Mult) rMulS := fun pins s σ H x y v u Q I rx ry h => by
  obtain ⟨a, i, rfl, rfl, hm, q⟩ := h
  obtain ⟨t, rfl⟩ := rx
  obtain ⟨t2, rfl⟩ := ry
  exact PySem.SB.mul hm fun t' k => ⟨.str _, H, I.tok k, ⟨t', rfl⟩, q⟩
/-- two factors of together less than a hundred million bits -/
def CMulX (i j : Int) : Prop := i.natAbs.log2 + j.natAbs.log2 < 100000000
theorem bits_log (x : Int) : Builtin.Int.intBits x ≤ x.natAbs.log2 + 1 := by unfold Builtin.Int.intBits; split <;> omega
theorem CMulX.ok {i j : Int} (h : CMulX i j) : IntMulOk i j := fun z => by
  have a := bits_log i
  have b := bits_log j
  have c : i.natAbs.log2 + j.natAbs.log2 < 100000000 := h
  have e : bitsLine = 134217728 := by decide
  rw [Bool.and_eq_true] at z
  have big := of_decide_eq_true (show decide _ = true from z.2)
  rw [e] at big
  omega
theorem op_mulX {X : Cx} : OpR X (binaryOp .Mult) (rI CMulX fun i j => .int (i * j)) := opI fun _ _ _ _ _ _ _ hc q => PyProof.Rows.mul_int q hc.ok
def rMulA (K : PySem.W.Frag) : R2 := fun x y H Q => rI CMulX (fun i j => .int (i * j)) x y H Q ∨ (rRep x y H Q ∨ (rMulS x y H Q ∨ rRepT K x y H Q))
theorem op_mulA {X : Cx} : OpR X (binaryOp .Mult) (rMulA X.K) := op_mulX.or (op_rep.or (op_mulS.or op_repT))
theorem reps_rep {S : Sg} {F : Hp} {ds : List D} {xs : List V} (r : Reps S F ds xs) : ∀ n : Nat, Reps S F (List.replicate n ds).flatten (List.replicate n xs).flatten
  | 0 => rfl
  | n + 1 => by
    rw [List.replicate_succ, List.replicate_succ, List.flatten_cons, List.flatten_cons]
    exact r.append (reps_rep r n)
theorem s_mul {S : Sg} : OpS S (rMulA S.K) (binop .mul) := by
  intro Z F env σ H d e x y Q Q' s hd he h k
  cases d <;> cases e <;> first
    | exact False.elim h
    | skip
  · obtain ⟨h1, h⟩ := h
    rw [hd.int, he.int]; exact .inl ⟨_, _, rfl, rfl, h1, fin_val s h rfl k⟩
  · obtain ⟨h1, h⟩ := h
    rw [hd.str, he.int]; exact .inr (.inr (.inl ⟨_, _, rfl, rfl, h1, fin_val s h rfl k⟩))
  · obtain ⟨⟨h0, h1, h2, h3⟩, h⟩ := h
    obtain ⟨a, xs, rfl, hx, rx⟩ := hd.tup s.same
    rw [he.int]
    exact .inr (.inr (.inr ⟨a, _, xs, rfl, rfl, hx, fun z => h0 (List.length_eq_zero_iff.mp (by rw [← rx.length, z]; rfl)), h1, h2, by rw [rx.length]; exact h3, fin_tup s h (reps_rep rx _) k⟩))
  · obtain ⟨⟨h1, h2, h3⟩, h⟩ := h
    obtain ⟨a, xs, rfl, hx, rx⟩ := hd.lst s.same
    rw [he.int]
    exact .inr (.inl ⟨a, _, xs, rfl, rfl, hx, h1, h2, by rw [rx.length]; exact lim_le h3, fin_new s h (reps_rep rx _) k⟩)
  · obtain ⟨⟨h0, h1, h2, h3⟩, h⟩ := h
    obtain ⟨a, xs, rfl, _, hx, rx⟩ := hd.tpn s.same
    rw [he.int]
    exact .inr (.inr (.inr ⟨a, _, xs, rfl, rfl, hx, fun z => h0 (List.length_eq_zero_iff.mp (by rw [← rx.length, z]; rfl)), h1, h2, by rw [rx.length]; exact h3, fin_tup s h (reps_rep rx _) k⟩))
theorem s_fdiv {S : Sg} : OpS S (rI CDivW fun i j => .int (i / j)) (binop .fdiv) := by
  intro Z F env σ H d e x y Q Q' s hd he h k
  cases d <;> cases e <;> first
    | exact False.elim h
    | skip
  obtain ⟨h1, h⟩ := h
  rw [hd.int, he.int]; exact ⟨_, _, rfl, rfl, h1, fin_val s h rfl k⟩
theorem s_mod {S : Sg} : OpS S (rI (fun _ j => 0 < j) fun i j => .int (i % j)) (binop .mod) := by
  intro Z F env σ H d e x y Q Q' s hd he h k
  cases d <;> cases e <;> first
    | exact False.elim h
    | skip
  obtain ⟨h1, h⟩ := h
  rw [hd.int, he.int]; exact ⟨_, _, rfl, rfl, h1, fin_val s h rfl k⟩
theorem s_pow {S : Sg} : OpS S (rI CPow fun i j => .int (i ^ j.toNat)) (binop .pow) := by
  intro Z F env σ H d e x y Q Q' s hd he h k
  cases d <;> cases e <;> first
    | exact False.elim h
    | skip
  obtain ⟨h1, h⟩ := h
  rw [hd.int, he.int]; exact ⟨_, _, rfl, rfl, h1, fin_val s h rfl k⟩

/-- the tables of the operators -/
def bOp : BOp → Operator
  | .add => .Add | .sub => .Sub | .mul => .Mult | .fdiv => .FloorDiv | .mod => .Mod | .pow => .Pow
def bR (K : PySem.W.Frag) : BOp → R2
  | .add => rAddA K
  | .sub => rI0 fun i j => .int (i - j)
  | .mul => rMulA K
  | .fdiv => rI CDivW fun i j => .int (i / j)
  | .mod => rI (fun _ j => 0 < j) fun i j => .int (i % j)
  | .pow => rI CPow fun i j => .int (i ^ j.toNat)
theorem bop_ok {X : Cx} : ∀ op : BOp, OpR X (binaryOp (bOp op)) (bR X.K op)
  | .add => op_addA | .sub => op_sub | .mul => op_mulA | .fdiv => op_fdivW | .mod => op_mod | .pow => op_pow
theorem bop_s {S : Sg} : ∀ op : BOp, OpS S (bR S.K op) (binop op)
  | .add => s_add | .sub => s_sub | .mul => s_mul | .fdiv => s_fdiv | .mod => s_mod | .pow => s_pow

/-! ### comparisons -/
theorem rd_scal {S : Sg} {Z F H : Hp} {env : Ev} {σ : L2.St} {d e : D} {x y : V} (hd : Rd S F H d x) (he : Rd S F H e y) (h : scalD d e = true) : scal x y = true ∧ decide (x = y) = eqS d e := by
  cases d <;> cases e <;> first
    | exact absurd (show false = true from h) Bool.false_ne_true
    | skip
  all_goals first
    | (rw [hd.non, he.non]; exact ⟨rfl, by simp [eqS]⟩)
    | (rw [hd.non, he.int]; exact ⟨rfl, by simp [eqS]⟩)
    | (rw [hd.int, he.non]; exact ⟨rfl, by simp [eqS]⟩)
    | (rw [hd.non, he.bl]; exact ⟨rfl, by simp [eqS]⟩)
    | (rw [hd.bl, he.non]; exact ⟨rfl, by simp [eqS]⟩)
    | (rw [hd.non, he.str]; exact ⟨rfl, by simp [eqS]⟩)
    | (rw [hd.str, he.non]; exact ⟨rfl, by simp [eqS]⟩)
    | (rw [hd.int, he.int]; exact ⟨rfl, by simp [eqS]⟩)
    | (rw [hd.bl, he.bl]; exact ⟨rfl, by rw [Bool.eq_iff_iff]; simp [eqS]⟩)
    | (rw [hd.str, he.str]; exact ⟨rfl, by simp [eqS]⟩)
    | (rw [hd.int, he.str]; exact ⟨rfl, by simp [eqS]⟩)
    | (rw [hd.str, he.int]; exact ⟨rfl, by simp [eqS]⟩)
    | (rw [hd.bl, he.str]; exact ⟨rfl, by simp [eqS]⟩)
    | (rw [hd.str, he.bl]; exact ⟨rfl, by simp [eqS]⟩)
mutual
theorem rep_dp {S : Sg} {F H : Hp} (e : Same F H) : ∀ (d : D) (v : V) (p : PyData), Rep S F d v → pd d = some p → Dp S.K H v p
  | .non, v, p, h, q => by cases q; cases (show v = .non from h); exact .non
  | .bl b, v, p, h, q => by cases q; cases (show v = .bl b from h); exact .bl b
  | .int b, v, p, h, q => by cases q; cases (show v = .int b from h); exact .int b
  | .str b, v, p, h, q => by cases q; cases (show v = .str b from h); exact .str b
  | .tup ds, v, p, h, q => by
    obtain ⟨a, xs, rfl, h1, h2⟩ := h
    cases w : pds ds with
    | none => rw [pd, w] at q; cases q
    | some ps =>
      rw [pd, w] at q; cases q
      exact .tup (sqt_mono e h1) (reps_dp e ds xs ps h2 w)
  | .lst ds, v, p, h, q => by
    obtain ⟨a, xs, rfl, h1, h2⟩ := h
    cases w : pds ds with
    | none => rw [pd, w] at q; cases q
    | some ps =>
      rw [pd, w] at q; cases q
      exact .lst (SqL.of (e _ _ h1)) (reps_dp e ds xs ps h2 w)
  | .tpn ds, v, p, h, q => by
    obtain ⟨a, xs, rfl, ⟨o, h1, h0⟩, h2⟩ := h
    cases w : pds ds with
    | none => rw [pd, w] at q; cases q
    | some ps =>
      rw [pd, w] at q; cases q
      exact .tup (.inl (.inr ⟨o, e _ _ h1⟩)) (reps_dp e ds xs ps h2 w)
  | .rol ds, v, p, h, q => by
    obtain ⟨a, xs, rfl, h1, h2⟩ := h
    cases w : pds ds with
    | none => rw [pd, w] at q; cases q
    | some ps =>
      rw [pd, w] at q; cases q
      exact .lst (e.seq h1) (reps_dp e ds xs ps h2 w)
  | .obj c ds, v, p, h, q => by cases q
  | .dct ks ds, v, p, h, q => by cases q
theorem reps_dp {S : Sg} {F H : Hp} (e : Same F H) : ∀ (ds : List D) (vs : List V) (ps : List PyData), Reps S F ds vs → pds ds = some ps → DpAll S.K H vs ps
  | [], vs, ps, h, q => by cases q; cases (show vs = [] from h); exact .nil
  | d :: ds, vs, ps, h, q => by
    obtain ⟨v, us, rfl, h1, h2⟩ := h
    cases w1 : pd d with
    | none => rw [pds, w1] at q; cases q
    | some a =>
      cases w2 : pds ds with
      | none => rw [pds, w1, w2] at q; cases q
      | some b =>
        rw [pds, w1, w2] at q; cases q
        exact .cons (rep_dp e d v a h1 w1) (reps_dp e ds us b h2 w2)
end
theorem rd_dp {S : Sg} {F H : Hp} (e : Same F H) {d : D} {v : V} {p : PyData} (h : Rd S F H d v) (q : pd d = some p) : Dp S.K H v p := by
  rcases h with h | ⟨a, o, rfl, h1, h2⟩
  · exact rep_dp e d v p h q
  · cases d with
    | lst ds =>
      obtain ⟨vs, rfl, h3⟩ := h2
      cases w : pds ds with
      | none => rw [pd, w] at q; cases q
      | some ps =>
        rw [pd, w] at q; cases q
        exact .lst (SqL.of h1) (reps_dp e ds vs ps h3 w)
    | obj c ds => cases q
    | dct ks ds => cases q
    | _ => exact False.elim h2
theorem op_eqA {X : Cx} (hu : X.A.units + 64 < cLine) : OpR X (compareOp .Eq) (fun x y H Q => rEq x y H Q ∨ rEqD X.K x y H Q) := op_eq.or (op_eqD hu)
theorem op_neA {X : Cx} (hu : X.A.units + 64 < cLine) : OpR X (compareOp .NotEq) (fun x y H Q => rNe x y H Q ∨ rNeD X.K x y H Q) := op_ne.or (op_neD hu)
theorem s_eq {S : Sg} : OpB S (fun x y H Q => rEq x y H Q ∨ rEqD S.K x y H Q) (cmpop .eq) := by
  intro Z F env σ H d e x y Q Q' s hd he h k
  have h : eqD d e Q := h
  unfold eqD at h
  by_cases c : scalD d e = true
  · rw [c] at h
    have h := (show Q (eqS d e) from ifB_t h)
    obtain ⟨h1, h2⟩ := rd_scal (Z := Z) (env := env) (σ := σ) hd he c
    exact .inl ⟨h1, by rw [h2]; exact k _ h⟩
  · rw [show scalD d e = false from by simpa using c] at h
    replace h : (match pd d, pd e with
      | some a, some b => SeqAt.shaped a = true ∧ SeqAt.shaped b = true ∧ Q (PyData.eqv a b)
      | _, _ => False) := ifB_f h
    cases w1 : pd d with
    | none => rw [w1] at h; exact False.elim h
    | some a =>
      cases w2 : pd e with
      | none => rw [w1, w2] at h; exact False.elim h
      | some b =>
        rw [w1, w2] at h
        obtain ⟨h1, h2, h⟩ := h
        exact .inr ⟨a, b, rd_dp s.same hd w1, rd_dp s.same he w2, h1, h2, k _ h⟩
theorem s_ne {S : Sg} : OpB S (fun x y H Q => rNe x y H Q ∨ rNeD S.K x y H Q) (cmpop .ne) := by
  intro Z F env σ H d e x y Q Q' s hd he h k
  have h : eqD d e (fun b => Q (!b)) := h
  unfold eqD at h
  by_cases c : scalD d e = true
  · rw [c] at h
    have h := (show Q (!eqS d e) from ifB_t h)
    obtain ⟨h1, h2⟩ := rd_scal (Z := Z) (env := env) (σ := σ) hd he c
    exact .inl ⟨h1, by rw [h2]; exact k _ h⟩
  · rw [show scalD d e = false from by simpa using c] at h
    replace h : (match pd d, pd e with
      | some a, some b => SeqAt.shaped a = true ∧ SeqAt.shaped b = true ∧ Q (!PyData.eqv a b)
      | _, _ => False) := ifB_f h
    cases w1 : pd d with
    | none => rw [w1] at h; exact False.elim h
    | some a =>
      cases w2 : pd e with
      | none => rw [w1, w2] at h; exact False.elim h
      | some b =>
        rw [w1, w2] at h
        obtain ⟨h1, h2, h⟩ := h
        exact .inr ⟨a, b, rd_dp s.same hd w1, rd_dp s.same he w2, h1, h2, k _ h⟩
def rLtA : R2 := fun x y H Q => rI0 (fun i j => .bl (decide (i < j))) x y H Q ∨ ∃ i j, x = .str i ∧ y = .str j ∧ Q (.bl (decide (i.cps.toList < j.cps.toList))) H
theorem op_ltA {X : Cx} : OpR X (compareOp .Lt) rLtA := op_lt.or op_lt_str
theorem s_lt {S : Sg} : OpB S rLtA (cmpop .lt) := by
  intro Z F env σ H d e x y Q Q' s hd he h k
  cases d <;> cases e <;> first
    | exact False.elim h
    | skip
  · rw [hd.int, he.int]; exact .inl ⟨_, _, rfl, rfl, k _ h⟩
  · rw [hd.str, he.str]; exact .inr ⟨_, _, rfl, rfl, k _ h⟩
theorem s_le {S : Sg} : OpB S (rI0 fun i j => .bl (decide (i ≤ j))) (cmpop .le) := by
  intro Z F env σ H d e x y Q Q' s hd he h k
  cases d <;> cases e <;> first
    | exact False.elim h
    | skip
  rw [hd.int, he.int]; exact ⟨_, _, rfl, rfl, k _ h⟩
theorem s_gt {S : Sg} : OpB S (rI0 fun i j => .bl (decide (j < i))) (cmpop .gt) := by
  intro Z F env σ H d e x y Q Q' s hd he h k
  cases d <;> cases e <;> first
    | exact False.elim h
    | skip
  rw [hd.int, he.int]; exact ⟨_, _, rfl, rfl, k _ h⟩
theorem s_ge {S : Sg} : OpB S (rI0 fun i j => .bl (decide (j ≤ i))) (cmpop .ge) := by
  intro Z F env σ H d e x y Q Q' s hd he h k
  cases d <;> cases e <;> first
    | exact False.elim h
    | skip
  rw [hd.int, he.int]; exact ⟨_, _, rfl, rfl, k _ h⟩

theorem flat_of {S : Sg} {F : Hp} : ∀ {xs : List D} {ys : List V} {d : D} {x : V}, Reps S F xs ys → Rep S F d x → (∀ y ∈ xs, sameKind y d = true) → ys.all flatV = true ∧ ys.any (fun y => eqV y x) = inD d xs
  | [], ys, d, x, h, _, _ => by cases (show ys = [] from h); exact ⟨rfl, rfl⟩
  | z :: zs, _, d, x, h, hd, hk => by
    obtain ⟨v, vs, rfl, h1, h2⟩ := h
    obtain ⟨i1, i2⟩ := flat_of h2 hd fun y hy => hk y (List.mem_cons_of_mem _ hy)
    have k := hk z List.mem_cons_self
    have key : flatV v = true ∧ eqV v x = eqS z d := by
      cases z <;> cases d <;> first
        | exact absurd (show false = true from k) Bool.false_ne_true
        | skip
      · cases (show v = .int _ from h1); cases (show x = .int _ from hd)
        exact ⟨rfl, by simp [eqV, eqS, Bool.beq_eq_decide_eq]⟩
      · cases (show v = .str _ from h1); cases (show x = .str _ from hd)
        exact ⟨rfl, by simp [eqV, eqS, Bool.beq_eq_decide_eq]⟩
    refine ⟨by rw [List.all_cons, key.1, i1]; rfl, ?_⟩
    show (eqV v x || vs.any fun y => eqV y x) = (eqS z d || inD d zs)
    rw [key.2, i2]
theorem flat_kind {d y : D} {S : Sg} {F H : Hp} {x : V} (h : Rd S F H d x) (k : sameKind y d = true) : Rep S F d x ∧ flatV x = true := by
  rcases h with h | ⟨a, o, e, h1, h2⟩
  · refine ⟨h, ?_⟩
    cases y <;> cases d <;> first
      | exact absurd (show false = true from k) Bool.false_ne_true
      | skip
    · cases (show x = .int _ from h); rfl
    · cases (show x = .str _ from h); rfl
  · cases y <;> cases d <;> first
      | exact absurd (show false = true from k) Bool.false_ne_true
      | exact False.elim h2
theorem sign_eq {x : Str} {c : Nat} (h : isSign x = some c) : x = ⟨#[c]⟩ := by
  obtain ⟨a⟩ := x
  unfold isSign at h
  have : a.toList = [c] := by
    revert h
    cases q : a.toList with
    | nil => intro h; cases h
    | cons b r =>
      cases r with
      | nil => intro h; cases h; rfl
      | cons _ _ => intro h; cases h
  have e : a = #[c] := by
    apply Array.toList_inj.mp
    rw [this]
  rw [e]
/-- y in a dict -/
def rInDc (neg : Bool) : R2 := fun x y H Q => ∃ a o, y = .ref a ∧ DGet H a x o ∧ Q (.bl (if neg = true then !o.isSome else o.isSome)) H
theorem op_inDc {X : Cx} (hu : X.A.units + 1 < cLine) : OpR X (compareOp .In) (rInDc false) := by
  intro pins s σ H x y v u Q I rx ry h
  obtain ⟨a, o, rfl, g, q⟩ := h
  cases ry
  exact d_in hu I g rx fun s' I' => ⟨.bl o.isSome, H, I', rfl, q⟩
theorem op_notInDc {X : Cx} (hu : X.A.units + 1 < cLine) : OpR X (compareOp .NotIn) (rInDc true) := by
  intro pins s σ H x y v u Q I rx ry h
  obtain ⟨a, o, rfl, g, q⟩ := h
  cases ry
  exact d_notIn hu I g rx fun s' I' => ⟨.bl (!o.isSome), H, I', rfl, q⟩
theorem dget_of {S : Sg} {F H : Hp} {d : D} {ks : List Key} {ds : List D} {k : Key} {x y : V} (sf : Same F H) (hd : Rd S F H d x) (he : Rd S F H (.dct ks ds) y) (hk : keyD d = some k) : ∃ a o, y = .ref a ∧ DGet H a x o ∧ o.isSome = hasK k ks := by
  obtain ⟨a, kvs, rfl, h1, h2, h3⟩ := he.dct sf
  have ex : x = kV k := by
    cases d <;> first
      | cases hk
      | skip
    · exact hd.int
    · exact hd.str
  refine ⟨a, valV kvs k, rfl, by rw [ex]; exact DGet.k h1, ?_⟩
  rw [← valV_any, ← h2]
  unfold hasK
  rw [List.any_map]
  rfl
def rInA (K : PySem.W.Frag) : R2 := fun x y H Q => (∃ (c : Nat) (z : Str), x = .str ⟨#[c]⟩ ∧ y = .str z ∧ Q (.bl (decide (c ∈ z.cps.toList))) H) ∨ (rIn K false x y H Q ∨ rInDc false x y H Q)
def rNotInA (K : PySem.W.Frag) : R2 := fun x y H Q => (∃ (c : Nat) (z : Str), x = .str ⟨#[c]⟩ ∧ y = .str z ∧ Q (.bl (!decide (c ∈ z.cps.toList))) H) ∨ (rIn K true x y H Q ∨ rInDc true x y H Q)
theorem op_inA {X : Cx} (hu : X.A.units + 1 < cLine) : OpR X (compareOp .In) (rInA X.K) := op_in_sign.or (op_in_seq.or (op_inDc hu))
theorem op_notInA {X : Cx} (hu : X.A.units + 1 < cLine) : OpR X (compareOp .NotIn) (rNotInA X.K) := op_notIn_sign.or (op_notIn_seq.or (op_notInDc hu))
theorem in_seq_s {S : Sg} {Z F H : Hp} {env : Ev} {σ : L2.St} {d e : D} {x y : V} {xs : List D} (s : SR S Z F env σ H) (hd : Rd S F H d x) (he : Rd S F H e y) (q : itemsOf e = some xs) (hk : ∀ z ∈ xs, sameKind z d = true) (fl : flatD d = true) :
    ∃ p ys, y = .ref p ∧ (SqL S.K H p ys ∨ SqT S.K H p ys) ∧ flatV x = true ∧ ys.all flatV = true ∧ inV x ys = inD d xs := by
  obtain ⟨a, ys, e1, h1, h2⟩ := rd_items s he q
  have hx : Rep S F d x ∧ flatV x = true := by
    cases d <;> first
      | exact absurd (show false = true from fl) Bool.false_ne_true
      | skip
    · exact ⟨hd.non, by rw [hd.non]; rfl⟩
    · exact ⟨hd.bl, by rw [hd.bl]; rfl⟩
    · exact ⟨hd.int, by rw [hd.int]; rfl⟩
    · exact ⟨hd.str, by rw [hd.str]; rfl⟩
  obtain ⟨f1, f2⟩ := flat_of h2 hx.1 hk
  exact ⟨a, ys, e1, h1, hx.2, f1, f2⟩
theorem s_in {S : Sg} : OpB S (rInA S.K) (cmpop .isin) := by
  intro Z F env σ H d e x y Q Q' s hd he h k
  by_cases c0 : ∃ ks ds, e = .dct ks ds
  · obtain ⟨ks, ds, rfl⟩ := c0
    have h : (match keyD d with | some k1 => Q (hasK k1 ks) | none => False) := by
      cases d <;> exact h
    cases q : keyD d with
    | none => rw [q] at h; exact h.elim
    | some k1 =>
      rw [q] at h
      obtain ⟨a, o, e1, g, e2⟩ := dget_of s.same hd he q
      refine .inr (.inr ⟨a, o, e1, g, ?_⟩)
      rw [if_neg Bool.false_ne_true, e2]
      exact k _ h
  by_cases c : ∃ u w, d = .str u ∧ e = .str w
  · obtain ⟨u, w, rfl, rfl⟩ := c
    have h : (match isSign u with | some c => Q (decide (c ∈ w.cps.toList)) | none => False) := h
    cases q : isSign u with
    | none => rw [q] at h; exact False.elim h
    | some c =>
      rw [q] at h
      rw [hd.str, he.str, sign_eq q]
      exact .inl ⟨c, w, rfl, rfl, k _ h⟩
  · have h : ∃ xs, itemsOf e = some xs ∧ flatD d = true ∧ (∀ z ∈ xs, sameKind z d = true) ∧ Q (inD d xs) := by
      cases d <;> cases e <;> first
        | exact False.elim h
        | exact absurd ⟨_, _, rfl, rfl⟩ c
        | exact absurd ⟨_, _, rfl⟩ c0
        | exact ⟨_, rfl, rfl, h.1, h.2.2⟩
        | exact ⟨_, rfl, h.2.1, h.1, h.2.2⟩
        | skip
    obtain ⟨xs, q, fl, hk, h⟩ := h
    obtain ⟨p, ys, e1, h1, h2, h3, h4⟩ := in_seq_s s hd he q hk fl
    exact .inr (.inl ⟨p, ys, e1, h1, h2, h3, by rw [if_neg Bool.false_ne_true, h4]; exact k _ h⟩)
theorem s_notin {S : Sg} : OpB S (rNotInA S.K) (cmpop .notin) := by
  intro Z F env σ H d e x y Q Q' s hd he h k
  by_cases c0 : ∃ ks ds, e = .dct ks ds
  · obtain ⟨ks, ds, rfl⟩ := c0
    have h : (match keyD d with | some k1 => Q (!hasK k1 ks) | none => False) := by
      cases d <;> exact h
    cases q : keyD d with
    | none => rw [q] at h; exact h.elim
    | some k1 =>
      rw [q] at h
      obtain ⟨a, o, e1, g, e2⟩ := dget_of s.same hd he q
      refine .inr (.inr ⟨a, o, e1, g, ?_⟩)
      rw [if_pos rfl, e2]
      exact k _ h
  by_cases c : ∃ u w, d = .str u ∧ e = .str w
  · obtain ⟨u, w, rfl, rfl⟩ := c
    have h : (match isSign u with | some c => Q (!decide (c ∈ w.cps.toList)) | none => False) := h
    cases q : isSign u with
    | none => rw [q] at h; exact False.elim h
    | some c =>
      rw [q] at h
      rw [hd.str, he.str, sign_eq q]
      exact .inl ⟨c, w, rfl, rfl, k _ h⟩
  · have h : ∃ xs, itemsOf e = some xs ∧ flatD d = true ∧ (∀ z ∈ xs, sameKind z d = true) ∧ Q (!inD d xs) := by
      cases d <;> cases e <;> first
        | exact False.elim h
        | exact absurd ⟨_, _, rfl, rfl⟩ c
        | exact absurd ⟨_, _, rfl⟩ c0
        | exact ⟨_, rfl, rfl, h.1, h.2.2⟩
        | exact ⟨_, rfl, h.2.1, h.1, h.2.2⟩
        | skip
    obtain ⟨xs, q, fl, hk, h⟩ := h
    obtain ⟨p, ys, e1, h1, h2, h3, h4⟩ := in_seq_s s hd he q hk fl
    exact .inr (.inl ⟨p, ys, e1, h1, h2, h3, by rw [if_pos rfl, h4]; exact k _ h⟩)

theorem relv_bool {x : V} {v : Value} (r : RelV x v) (b : Bool) : PySem.plainIs v (.bool b) = true ∧ (v == Value.bool b) = decide (x = .bl b) := by
  cases x with
  | non => cases r; exact ⟨rfl, by simp⟩
  | bl a => cases r; exact ⟨rfl, by rw [Bool.eq_iff_iff]; simp⟩
  | int _ => obtain ⟨t, rfl⟩ := r; exact ⟨rfl, by simp⟩
  | str _ => obtain ⟨t, rfl⟩ := r; exact ⟨rfl, by simp⟩
  | byt _ => obtain ⟨t, rfl⟩ := r; exact ⟨rfl, by simp⟩
  | flt _ => obtain ⟨t, rfl⟩ := r; exact ⟨rfl, by simp⟩
  | ref _ => cases r; exact ⟨rfl, by simp⟩
  | ty _ => cases r; exact ⟨rfl, by simp⟩
def rIsA : R2 := fun x y H Q => (y = .non ∧ Q (.bl (decide (x = .non))) H) ∨ ∃ b, y = .bl b ∧ Q (.bl (decide (x = .bl b))) H
def rIsntA : R2 := fun x y H Q => (y = .non ∧ Q (.bl (!decide (x = .non))) H) ∨ ∃ b, y = .bl b ∧ Q (.bl (!decide (x = .bl b))) H
theorem op_isA {X : Cx} : OpR X (compareOp .Is) rIsA := op_isN.or fun pins s σ H x y v u Q I rx ry h => by
  obtain ⟨b, rfl, q⟩ := h
  cases ry
  obtain ⟨h1, h2⟩ := relv_bool rx b
  exact PySem.wpAny_is_plain h1 (fin_bl I q h2.symm)
theorem op_isntA {X : Cx} : OpR X (compareOp .IsNot) rIsntA := op_notN.or fun pins s σ H x y v u Q I rx ry h => by
  obtain ⟨b, rfl, q⟩ := h
  cases ry
  obtain ⟨h1, h2⟩ := relv_bool rx b
  exact PySem.wpAny_isNot_plain h1 (fin_bl I q (by rw [h2]))
theorem rd_non {S : Sg} {F H : Hp} {d : D} {x : V} (h : Rd S F H d x) : decide (x = .non) = isNonD d := by
  cases d with
  | non => rw [h.non]; simp [isNonD, isBlD]
  | bl _ => rw [h.bl]; simp [isNonD, isBlD]
  | int _ => rw [h.int]; simp [isNonD, isBlD]
  | str _ => rw [h.str]; simp [isNonD, isBlD]
  | _ => rcases h with h | ⟨a, o, rfl, h⟩ <;> first
    | (simp [isNonD, isBlD]; done)
    | (obtain ⟨a, h⟩ := h; obtain ⟨_, h⟩ := h; first | (obtain ⟨rfl, _⟩ := h; simp [isNonD, isBlD]) | (obtain ⟨_, rfl, _⟩ := h; simp [isNonD, isBlD]))
theorem rd_bl {S : Sg} {F H : Hp} {d : D} {x : V} (b : Bool) (h : Rd S F H d x) : decide (x = .bl b) = isBlD b d := by
  cases d with
  | non => rw [h.non]; simp [isNonD, isBlD]
  | bl _ => rw [h.bl]; simp [isNonD, isBlD]
  | int _ => rw [h.int]; simp [isNonD, isBlD]
  | str _ => rw [h.str]; simp [isNonD, isBlD]
  | _ => rcases h with h | ⟨a, o, rfl, h⟩ <;> first
    | (simp [isNonD, isBlD]; done)
    | (obtain ⟨a, h⟩ := h; obtain ⟨_, h⟩ := h; first | (obtain ⟨rfl, _⟩ := h; simp [isNonD, isBlD]) | (obtain ⟨_, rfl, _⟩ := h; simp [isNonD, isBlD]))
theorem s_is {S : Sg} : OpB S rIsA (cmpop .is) := by
  intro Z F env σ H d e x y Q Q' s hd he h k
  cases e with
  | non => exact .inl ⟨he.non, by rw [rd_non hd]; exact k _ h⟩
  | bl b => exact .inr ⟨b, he.bl, by rw [rd_bl b hd]; exact k _ h⟩
  | _ => exact False.elim h
theorem s_isnt {S : Sg} : OpB S rIsntA (cmpop .isnt) := by
  intro Z F env σ H d e x y Q Q' s hd he h k
  cases e with
  | non => exact .inl ⟨he.non, by rw [rd_non hd]; exact k _ h⟩
  | bl b => exact .inr ⟨b, he.bl, by rw [rd_bl b hd]; exact k _ h⟩
  | _ => exact False.elim h
def cOp : COp → CmpOp
  | .lt => .Lt | .le => .LtE | .gt => .Gt | .ge => .GtE | .eq => .Eq | .ne => .NotEq | .isin => .In | .notin => .NotIn | .is => .Is | .isnt => .IsNot
def cR (K : PySem.W.Frag) : COp → R2
  | .lt => rLtA
  | .le => rI0 fun i j => .bl (decide (i ≤ j))
  | .gt => rI0 fun i j => .bl (decide (j < i))
  | .ge => rI0 fun i j => .bl (decide (j ≤ i))
  | .eq => fun x y H Q => rEq x y H Q ∨ rEqD K x y H Q
  | .ne => fun x y H Q => rNe x y H Q ∨ rNeD K x y H Q
  | .isin => rInA K
  | .notin => rNotInA K
  | .is => rIsA
  | .isnt => rIsntA
theorem cop_ok {X : Cx} (hu : X.A.units + 64 < cLine) : ∀ op : COp, OpR X (compareOp (cOp op)) (cR X.K op)
  | .lt => op_ltA | .le => op_le | .gt => op_gt | .ge => op_ge | .eq => op_eqA hu | .ne => op_neA hu | .isin => op_inA (by omega) | .notin => op_notInA (by omega) | .is => op_isA | .isnt => op_isntA
theorem cop_s {S : Sg} : ∀ op : COp, OpB S (cR S.K op) (cmpop op)
  | .lt => s_lt | .le => s_le | .gt => s_gt | .ge => s_ge | .eq => s_eq | .ne => s_ne | .isin => s_in | .notin => s_notin | .is => s_is | .isnt => s_isnt

/-! ### subscripts, slices -/
theorem at_rep {S : Sg} {F : Hp} {ds : List D} {vs : List V} {i : Int} {d : D} (r : Reps S F ds vs) (h : atI ds i = some d) : ∃ v, atI vs i = some v ∧ Rep S F d v := by
  unfold atI at h ⊢
  rw [r.length]
  cases q : ixN ds.length i with
  | none => rw [q] at h; cases h
  | some j => rw [q] at h; exact r.get h
def rIxA (K : PySem.W.Frag) : R2 := fun x y H Q => rIxL K x y H Q ∨ (rIxT K x y H Q ∨ rIxS x y H Q)
theorem ix_A {X : Cx} : IxR X (rIxA X.K) := ix_list.or (ix_tup.or ix_str)
theorem s_idx {S : Sg} {Z F : Hp} {env : Ev} {σ : L2.St} {H : Hp} {d : D} {n : Int} {x y : V} {Q' : VK} {e : D} (s : SR S Z F env σ H) (hd : Rd S F H d x) (he : Rd S F H (.int n) y) (h : idxD d n = some e) (k : ∀ v, Rep S F e v → Q' v H) : rIxA S.K x y H Q' := by
  rw [he.int]
  cases d with
  | lst xs =>
    obtain ⟨a, ys, rfl, h1, h2⟩ := hd.lst s.same
    obtain ⟨v, h3, h4⟩ := at_rep h2 h
    exact .inl ⟨a, ys, n, v, rfl, rfl, SqL.of h1, h3, k v h4⟩
  | rol xs =>
    obtain ⟨a, ys, rfl, h1, h2⟩ := hd.rol s.same
    obtain ⟨v, h3, h4⟩ := at_rep h2 h
    exact .inl ⟨a, ys, n, v, rfl, rfl, h1, h3, k v h4⟩
  | tup xs =>
    obtain ⟨a, ys, rfl, h1, h2⟩ := hd.tup s.same
    obtain ⟨v, h3, h4⟩ := at_rep h2 h
    exact .inr (.inl ⟨a, ys, n, v, rfl, rfl, h1, h3, k v h4⟩)
  | tpn xs =>
    obtain ⟨a, ys, rfl, _, h1, h2⟩ := hd.tpn s.same
    obtain ⟨v, h3, h4⟩ := at_rep h2 h
    exact .inr (.inl ⟨a, ys, n, v, rfl, rfl, h1, h3, k v h4⟩)
  | str z =>
    rw [hd.str]
    have h : (if z.length ≤ LIM then (atI z.cps.toList n).map fun c => D.str ⟨#[c]⟩ else none) = some e := h
    by_cases hz : z.length ≤ LIM
    · rw [if_pos hz] at h
      cases q : atI z.cps.toList n with
      | none => rw [q] at h; cases h
      | some c =>
        rw [q] at h; cases h
        exact .inr (.inr ⟨z, n, c, rfl, rfl, lim_le hz, q, k _ rfl⟩)
    · rw [if_neg hz] at h; cases h
  | _ => cases h
def rSlA (K : PySem.W.Frag) : V → Option Int → Option Int → Hp → VK → Prop := fun x lo hi H Q => rSlL K x lo hi H Q ∨ (L2.rSlA K x lo hi H Q ∨ rSlS x lo hi H Q)
theorem sl_A {X : Cx} : SlR X (rSlA X.K) := sl_list.or (sl_tupA.or sl_str)
theorem cut_all {xs : List D} {lo hi : Option Int} (h : HT.sIx xs.length 0 lo = 0 ∧ HT.sIx xs.length xs.length hi = xs.length) : cutD xs lo hi = xs := by
  unfold cutD
  rw [h.1, h.2]
  simp
theorem cut_rep {S : Sg} {F : Hp} {ds : List D} {vs : List V} (r : Reps S F ds vs) (lo hi : Option Int) : Reps S F (cutD ds lo hi) (cutV vs lo hi) := by
  unfold cutD cutV
  rw [r.length]
  exact (r.drop _).take _
theorem s_slc {S : Sg} {Z F : Hp} {env : Ev} {σ : L2.St} {H : Hp} {d : D} {lo hi : Option Int} {x : V} {Q : RR → Prop} {Q' : VK} (s : SR S Z F env σ H) (hd : Rd S F H d x) (h : slcD d lo hi Q)
    (k : ∀ F' H' v r, Q r → Same F F' → SR S Z F' env σ H' → RRel S Z F' H' σ env r v → Q' v H') : rSlA S.K x lo hi H Q' := by
  cases d with
  | lst xs =>
    obtain ⟨a, ys, rfl, h1, h2⟩ := hd.lst s.same
    exact .inl ⟨a, ys, rfl, SqL.of h1, fin_new s h (cut_rep h2 lo hi) k⟩
  | rol xs =>
    obtain ⟨a, ys, rfl, h1, h2⟩ := hd.rol s.same
    exact .inl ⟨a, ys, rfl, h1, fin_new s h (cut_rep h2 lo hi) k⟩
  | tup xs =>
    have h : Q (.val (.tup (cutD xs lo hi))) := h
    obtain ⟨a, ys, rfl, h1, hf, h2⟩ := tupR_of s.same hd
    exact .inr (.inl ⟨a, ys, rfl, h1, fun z => fin_val s h (by rw [cut_all (by rw [← h2.length]; exact z)]; exact tup_of hf h2) k, fun _ => fin_tup s h (cut_rep h2 lo hi) k⟩)
  | tpn xs =>
    have h : Q (.val (.tup (cutD xs lo hi))) := h
    obtain ⟨a, ys, rfl, h1, hf, h2⟩ := tpnR_of s.same hd
    exact .inr (.inl ⟨a, ys, rfl, h1, fun z => fin_val s h (by rw [cut_all (by rw [← h2.length]; exact z)]; exact tup_of hf h2) k, fun _ => fin_tup s h (cut_rep h2 lo hi) k⟩)
  | str z =>
    obtain ⟨hz, h⟩ := h
    rw [hd.str]
    exact .inr (.inr ⟨z, rfl, lim_le hz, fin_val s h rfl k⟩)
  | _ => exact False.elim h

/-! ### built-ins called by name -/
theorem one_rd {S : Sg} {F H : Hp} {d : D} {vs : List V} (h : Paired (Rd S F H) [d] vs) : ∃ v, vs = [v] ∧ Rd S F H d v := by
  cases h with
  | cons a b => cases b; exact ⟨_, rfl, a⟩
theorem two_rd {S : Sg} {F H : Hp} {d e : D} {vs : List V} (h : Paired (Rd S F H) [d, e] vs) : ∃ v u, vs = [v, u] ∧ Rd S F H d v ∧ Rd S F H e u := by
  cases h with
  | cons a b => cases b with | cons c z => cases z; exact ⟨_, _, rfl, a, c⟩
theorem ints_rep {S : Sg} {F : Hp} : ∀ {xs : List D} {ys : List V} {ns : List Int}, Reps S F xs ys → intsD xs = some ns → ys = ns.map V.int
  | [], ys, ns, h, e => by cases e; cases (show ys = [] from h); rfl
  | .int i :: xs, _, ns, ⟨v, vs, rfl, h1, h2⟩, e => by
    cases q : intsD xs with
    | none => rw [intsD, q] at e; cases e
    | some ms =>
      rw [intsD, q] at e; cases e
      cases (show v = .int i from h1)
      rw [ints_rep h2 q]; rfl
  | .non :: _, _, _, _, e => by cases e
  | .bl _ :: _, _, _, _, e => by cases e
  | .str _ :: _, _, _, _, e => by cases e
  | .tup _ :: _, _, _, _, e => by cases e
  | .lst _ :: _, _, _, _, e => by cases e
  | .rol _ :: _, _, _, _, e => by cases e
  | .tpn _ :: _, _, _, _, e => by cases e
  | .obj _ _ :: _, _, _, _, e => by cases e
theorem strs_rep {S : Sg} {F : Hp} : ∀ {xs : List D} {ys : List V} {ns : List Str}, Reps S F xs ys → strsD xs = some ns → ys = ns.map V.str
  | [], ys, ns, h, e => by cases e; cases (show ys = [] from h); rfl
  | .str i :: xs, _, ns, ⟨v, vs, rfl, h1, h2⟩, e => by
    cases q : strsD xs with
    | none => rw [strsD, q] at e; cases e
    | some ms =>
      rw [strsD, q] at e; cases e
      cases (show v = .str i from h1)
      rw [strs_rep h2 q]; rfl
  | .non :: _, _, _, _, e => by cases e
  | .bl _ :: _, _, _, _, e => by cases e
  | .int _ :: _, _, _, _, e => by cases e
  | .tup _ :: _, _, _, _, e => by cases e
  | .lst _ :: _, _, _, _, e => by cases e
  | .rol _ :: _, _, _, _, e => by cases e
  | .tpn _ :: _, _, _, _, e => by cases e
  | .obj _ _ :: _, _, _, _, e => by cases e
theorem bools_rep {S : Sg} {F : Hp} : ∀ {xs : List D} {ys : List V} {ns : List Bool}, Reps S F xs ys → boolsD xs = some ns → ys = ns.map V.bl
  | [], ys, ns, h, e => by cases e; cases (show ys = [] from h); rfl
  | .bl i :: xs, _, ns, ⟨v, vs, rfl, h1, h2⟩, e => by
    cases q : boolsD xs with
    | none => rw [boolsD, q] at e; cases e
    | some ms =>
      rw [boolsD, q] at e; cases e
      cases (show v = .bl i from h1)
      rw [bools_rep h2 q]; rfl
  | .non :: _, _, _, _, e => by cases e
  | .str _ :: _, _, _, _, e => by cases e
  | .int _ :: _, _, _, _, e => by cases e
  | .tup _ :: _, _, _, _, e => by cases e
  | .lst _ :: _, _, _, _, e => by cases e
  | .rol _ :: _, _, _, _, e => by cases e
  | .tpn _ :: _, _, _, _, e => by cases e
  | .obj _ _ :: _, _, _, _, e => by cases e
theorem reps_strs {S : Sg} {F : Hp} : ∀ zs : List Str, Reps S F (zs.map .str) (zs.map V.str)
  | [] => rfl
  | z :: zs => ⟨.str z, _, rfl, rfl, reps_strs zs⟩
abbrev RN := List V → Hp → VK → Prop
theorem CallR.or {X : Cx} {f : Value} {r r' : RN} (h : CallR X f r) (h' : CallR X f r') : CallR X f (fun xs H Q => r xs H Q ∨ r' xs H Q) := by
  intro pins s σ H xs us Q I rv q
  rcases q with q | q
  · exact h pins s σ H xs us Q I rv q
  · exact h' pins s σ H xs us Q I rv q
def rStrA : RN := fun xs H Q => (∃ i, xs = [.int i] ∧ i.natAbs.log2 < 1920 ∧ Q (.str (toString i)) H) ∨ (∃ a, xs = [.str a] ∧ Q (.str a) H)
def rMax2A : RN := fun xs H Q => ∃ i j, xs = [.int i, .int j] ∧ Q (.int (if j > i then j else i)) H
def rMin2A : RN := fun xs H Q => ∃ i j, xs = [.int i, .int j] ∧ Q (.int (if j < i then j else i)) H
def rLen1 (K : PySem.W.Frag) : RN := fun xs H Q => ∃ x n, xs = [x] ∧ LenV K x H n ∧ Q (.int (n : Nat)) H
def rInt1 : RN := fun xs H Q => (∃ i, xs = [.int i] ∧ Q (.int i) H) ∨ ∃ k, xs = [.bl k] ∧ Q (.int (if k then 1 else 0)) H
def rBool1 : RN := fun xs H Q => (∃ i, xs = [.int i] ∧ Q (.bl (i != 0)) H) ∨ ∃ k, xs = [.bl k] ∧ Q (.bl k) H
def rAbs1 : RN := fun xs H Q => ∃ i, xs = [.int i] ∧ Q (.int (if i < 0 then -i else i)) H
def rTup1 (K : PySem.W.Frag) : RN := fun xs H Q => ∃ p ys, xs = [.ref p] ∧ ((SqL K H p ys ∧ ∀ l o, H l = none → o.dict = none → Q (.ref l) (upd H l (.frz o (.tup ys)))) ∨ (SqT K H p ys ∧ Q (.ref p) H))
theorem call_tup1 {X : Cx} : CallR X (.type "tuple") (rTup1 X.K) := by
  intro pins s σ H xs us Q I r h
  obtain ⟨p, ys, rfl, h⟩ := h
  obtain ⟨u, rfl, rx⟩ := vals1 r
  cases rx
  rcases h with ⟨hq, q⟩ | ⟨hq, q⟩
  · obtain ⟨its, rv, pl, hz⟩ := I.list hq
    have hl := rv.length
    refine PySem.call_tuple_list pl.isList (fun h2 kp => ?_) (by rw [List.size_toArray, ← hl]; exact hz)
    have J : Inv X pins σ H { s with heap := h2 } := I.kept (t' := s.toks) kp
    have hn : H h2.objs.size = none := J.hok.fresh (Nat.le_refl _)
    let o : Obj := { cls := .type "tuple", data := .seq its.toArray }
    have ho : (h2.push o).get? h2.objs.size = some o := Heap.get?_push_size _ rfl
    have new : ObjOk X.prog X.w (upd H h2.objs.size (.frz o (.tup ys))) (h2.push o) h2.objs.size (.frz o (.tup ys)) := ⟨ho, hz, its, rv, ⟨o, ho, rfl, _, rfl⟩⟩
    exact ⟨.ref h2.objs.size, _, J.laid (t' := s.toks) (fun b u e => Heap.get?_push_of_some _ e) (Nat.le_refl _) new, rfl, q _ o hn rfl⟩
  · obtain ⟨its, rv, pl, hz⟩ := I.tuple hq
    exact PySem.call_tuple_same pl ⟨.ref p, H, I, rfl, q⟩
/-- a new tuple of that kind -/
theorem fin_tpn {S : Sg} {Z F H : Hp} {env : Ev} {σ : L2.St} {ds : List D} {xs : List V} {Q : RR → Prop} {Q' : VK} (s : SR S Z F env σ H) (q : Q (.val (.tpn ds))) (r : Reps S F ds xs) (k : ∀ F' H' v r, Q r → Same F F' → SR S Z F' env σ H' → RRel S Z F' H' σ env r v → Q' v H') :
    ∀ p o, H p = none → o.dict = none → Q' (.ref p) (upd H p (.frz o (.tup xs))) := fun p o hp ho =>
  k _ _ _ (.val (.tpn ds)) q (same_new (fresh_F s hp)) (sr_newF s hp) ⟨p, xs, rfl, ⟨o, upd_same, ho⟩, Reps.mono (same_new (fresh_F s hp)) _ _ r⟩
/-! list(text) -/
section
open PySem.Spec PyProof.Rows PySem.Calls PyProof.V
section
variable {prog : Program} {w : World} {A : Around} {E : Value → Shared → Prop} {s : Shared} {x : Str} {t : Tok}
theorem hint_str {Q : Bool → Shared → Prop} (h : Q false s) : wpAny (model prog w) A (Builtin.List.listLengthHint (.str x t)) Q E s := by
  unfold Builtin.List.listLengthHint
  have hT : s.TypeIs (.str x t) "str" := typeIs_str s x t
  refine wpAny_bind (wpAny_specialOf hT PySem.F.slot_str_len.lookup ?_)
  generalize hid : ("str.__len__" : String) = id0
  wp_delta
  rw [show splitId id0 = some ("str", "__len__") from by subst hid; decide +kernel]
  subst hid
  refine wpAny_bind (wpAny_isInstance (T := "str") (b := true) hT (by rw [isSubtype_type]; kernel_rfl) ?_)
  refine wpAny_ite_split (fun hab => absurd hab (by decide)) (fun _ => ?_)
  refine wpAny_ite_split (fun _ => ?_) (fun hab => absurd (by decide +kernel) hab)
  refine wpAny_bind (wpAny_typeOf hT ?_)
  exact wpAny_pure h
theorem str_iter (hh : A.handled = none) : ∃ (oI : Obj) (St : Nat → Heap → Prop),
    (∀ (E : Value → Shared → Prop) (Q : Value → Shared → Prop), Q (.ref s.heap.objs.size) { s with heap := s.heap.push oI } → wpAny (model prog w) A (pyIter (.str x t)) Q E s) ∧
    Walks prog w A s.heap.objs.size [s.heap.objs.size] [s.heap.objs.size] x.cps.size (SignAt x) St ∧ St 0 (s.heap.push oI) := by
  cases ha : x.cps.all (· < 128)
  · refine ⟨_, _, fun E Q h => wpAny_pyIter_wide ha h, Walks.strWide hh _ x t, ⟨_, Heap.get?_push_size _ rfl, rfl, rfl⟩⟩
  · refine ⟨_, _, fun E Q h => wpAny_pyIter_ascii ha h, Walks.strAscii hh _ x t, ⟨_, Heap.get?_push_size _ rfl, rfl, rfl⟩⟩
theorem strl_extend {R : Result → Shared → Prop} (hh : A.handled = none) (S : Addr) (res : Value) (c₀ : Nat) (hS : s.heap.get? S = some { cls := .type "list", data := .seq #[] c₀ })
    (hR : ∀ h' tk acc' c', (∀ b o, b ≠ S → s.heap.get? b = some o → h'.get? b = some o) → h'.get? S = some { cls := .type "list", dict := none, data := .seq acc' c', slots := #[] } → ItemsOf (SignAt x) acc' x.cps.size → R (.ok (.ret res)) { s with heap := h', toks := tk }) (hn : x.cps.size ≤ sizeLine) :
    wpAny (model prog w) A.in1 (Builtin.List.listExtendWith (.ref S) (.str x t) res)
      (fun fin s' => match fin with | .done f => R (.ok f) s' | .again c' => c'.quiet = true ∧ codeAny (model prog w) A c' R s') (fun e s' => R (.error e) s') s := by
  have hSI : S ≠ s.heap.objs.size := Nat.ne_of_lt (Heap.lt_size hS)
  have hSf : S ∉ [s.heap.objs.size] := by simp only [List.mem_cons, List.not_mem_nil, or_false]; exact hSI
  obtain ⟨oI, St, hit, W, st⟩ := str_iter (A := A.in1) (s := s) (x := x) (t := t) (prog := prog) (w := w) hh
  have key : ∀ (h : Heap) (c₁ tk : Nat), St 0 h → (∀ b o, b ≠ S → s.heap.get? b = some o → h.get? b = some o) →
      h.get? S = some { cls := .type "list", data := .seq #[] c₁ } → codeAny (model prog w) A (.builtin "list.extend.loop" ⟨[.ref S, .ref s.heap.objs.size, res], []⟩) R { s with heap := h, toks := tk } := by
    intro h c₁ tk hst hk hS₁
    refine codeAny_extend_loopS W.toS hn S hSf res x.cps.size 0 _ #[] c₁ rfl (Nat.zero_le _) hst hS₁ (ItemsOf.nil _) fun s' acc' c' hm hS' hacc => ?_
    rw [Moved.eq_with hm]
    refine hR s'.heap s'.toks acc' c' (fun b o hb e => hm.heap b o (fun hmem => ?_) (hk b o hb e)) hS' hacc
    rcases List.mem_cons.mp hmem with e' | hmem
    · exact hb e'
    · exact absurd (Heap.lt_size e) (by rw [List.mem_singleton.mp hmem]; exact Nat.lt_irrefl _)
  unfold Builtin.List.listExtendWith
  refine wpAny_bind (wpAny_typeOf (T := "str") (typeIs_str s x t) ?_)
  have h1 : Builtin.List.listSameRef (.ref S) (.str x t) = false := rfl
  have h2 : (Value.type "str" == Value.type "list") = false := by decide
  have h3 : (Value.type "str" == Value.type "tuple") = false := by decide
  simp only [h1, h2, h3, Bool.or_false, Bool.false_eq_true, if_false]
  refine wpAny_bind (hit _ _ ?_)
  have hS₁ := Heap.get?_push_of_some oI hS
  refine wpAny_bind (wpAny_holding (hint_str ?_))
  refine wpAny_ite_split (fun _ => ?_) (fun _ => wpAny_pure ⟨plainId_quiet PySem.F.plain_extend_loop _, key _ c₀ _ st (fun b o _ e => Heap.get?_push_of_some _ e) hS₁⟩)
  refine wpAny_bind (wpAny_rule ?_)
  refine wpAny_bind ?_
  show wpAny _ _ (updateSeq S (·.push .none) >>= fun _ => updateSeq S (·.pop)) _ _ _
  refine wpAny_bind (wpAny_updateSeq hS₁ rfl ?_)
  have hS₂ := Heap.get?_update_self (Obj.mapSeq (·.push Value.none)) hS₁ rfl
  refine wpAny_updateSeq (hz := by seq_fits) hS₂ rfl ?_
  have hS₃ := Heap.get?_update_self (Obj.mapSeq (·.pop)) hS₂ rfl
  refine wpAny_pure ⟨plainId_quiet PySem.F.plain_extend_loop _, key _ _ _ ?_ (fun b o hb e => ?_) hS₃⟩
  · refine W.frame 0 _ _ st fun b hb o e => ?_
    have hbS : b ≠ S := fun h => hSf (h ▸ hb)
    exact (Heap.get?_update_other _ _ (Ne.symm hbS)).trans ((Heap.get?_update_other _ _ (Ne.symm hbS)).trans e)
  · exact (Heap.get?_update_other _ _ (Ne.symm hb)).trans ((Heap.get?_update_other _ _ (Ne.symm hb)).trans (Heap.get?_push_of_some _ e))
theorem strl_init {R : Result → Shared → Prop} (hh : A.handled = none) (S : Addr) (hS : s.heap.get? S = some { cls := .type "list", data := .seq #[] })
    (hR : ∀ h' tk acc' c', (∀ b o, b ≠ S → s.heap.get? b = some o → h'.get? b = some o) → h'.get? S = some { cls := .type "list", dict := none, data := .seq acc' c', slots := #[] } → ItemsOf (SignAt x) acc' x.cps.size → R (.ok (.ret .none)) { s with heap := h', toks := tk }) (hn : x.cps.size ≤ sizeLine) :
    wpAny (model prog w) A.in1 (Builtin.«list.__init__» ⟨[.ref S, .str x t], []⟩)
      (fun fin s' => match fin with | .done f => R (.ok f) s' | .again c' => c'.quiet = true ∧ codeAny (model prog w) A c' R s') (fun e s' => R (.error e) s') s := by
  show wpAny _ _ (do let old ← Builtin.List.listItems (.ref S); Builtin.List.listUpdate (.ref S) (fun _ => #[]); letGo old.toList.reverse; Builtin.List.listExtendWith (.ref S) (.str x t) .none) _ _ s
  refine wpAny_bind ?_
  unfold Builtin.List.listItems
  refine wpAny_bind (wpAny_seqItems hS rfl (wpAny_pure ?_))
  show wpAny _ _ (updateSeq S (fun _ => #[]) >>= fun _ => letGo (#[] : Array Value).toList.reverse >>= fun _ => Builtin.List.listExtendWith (.ref S) (.str x t) .none) _ _ s
  refine wpAny_bind (wpAny_updateSeq hS rfl ?_)
  have hS₂ := Heap.get?_update_self (Obj.mapSeq (fun _ => (#[] : Array Value))) hS rfl
  have oth : ∀ b o, b ≠ S → s.heap.get? b = some o → (s.heap.update S (Obj.mapSeq (fun _ => (#[] : Array Value)))).get? b = some o :=
    fun b o hb e => (Heap.get?_update_other _ _ (Ne.symm hb)).trans e
  refine wpAny_bind (wpAny_letGo ?_)
  refine strl_extend hh S .none _ hS₂ (fun h' tk acc' c' hk hS' hacc => ?_) hn
  exact hR h' tk acc' c' (fun b o hb e => hk b o hb (oth b o hb e)) hS' hacc
theorem strl_call {Q : Value → Shared → Prop} (hh : A.handled = none) (hn : x.cps.size ≤ sizeLine)
    (hQ : ∀ h' tk acc' c', (∀ b o, s.heap.get? b = some o → h'.get? b = some o) → h'.get? s.heap.objs.size = some { cls := .type "list", dict := none, data := .seq acc' c', slots := #[] } → ItemsOf (SignAt x) acc' x.cps.size → Q (.ref s.heap.objs.size) { s with heap := h', toks := tk }) :
    wpAny (model prog w) A (call (.type "list") [.str x t]) Q E s := by
  refine callType_codes (Q₁ := fun obj s₁ => obj = .ref s.heap.objs.size ∧ s₁ = { s with heap := s.heap.push { cls := .type "list", data := .seq #[] } }) PySem.F.called_list (PySem.F.typeCall_list_1 _) PySem.F.entry_list_init
    (code_list_new _ ⟨rfl, rfl⟩) fun obj s₁ h₁ => ?_
  obtain ⟨rfl, rfl⟩ := h₁
  have hS : (s.heap.push { cls := .type "list", data := .seq #[] }).get? s.heap.objs.size = some { cls := .type "list", data := .seq #[] } := Heap.get?_push_size _ rfl
  refine ⟨⟨_, hS, rfl⟩, PySem.F.args_list_init_2 _ _, strl_init (A := A.in1) hh _ hS (fun h' tk acc' c' hk hS' hacc => ?_) hn⟩
  exact ⟨rfl, hQ h' tk acc' c' (fun b o e => hk b o (Nat.ne_of_lt (Heap.lt_size e)) (Heap.get?_push_of_some _ e)) hS' hacc⟩
end
/-- the signs of a text -/
def sgV (z : Str) : List V := z.cps.toList.map fun c => V.str ⟨#[c]⟩
def rLstS : RN := fun xs H Q => ∃ z : Str, xs = [.str z] ∧ z.length ≤ sizeLine ∧ ∀ l, H l = none → Q (.ref l) (upd H l (.lst (sgV z)))
theorem call_listS {X : Cx} (hc : X.calm = true) : CallR X (.type "list") rLstS := by
  intro pins s σ H xs us Q I r h
  obtain ⟨z, rfl, hz, q⟩ := h
  obtain ⟨u, rfl, t, rfl⟩ := vals1 r
  refine strl_call (I.ok.hd hc) hz fun h' tk acc c' hkeep hS hacc => ?_
  refine ⟨.ref s.heap.objs.size, upd H s.heap.objs.size (.lst (sgV z)), I.laid hkeep (Nat.le_refl _) (show ObjOk X.prog X.w _ _ _ (.lst (sgV z)) from ⟨?_, acc.toList, c', ?_, ?_⟩), rfl, q _ (I.hok.fresh (Nat.le_refl _))⟩
  · unfold sgV; rw [List.length_map]; exact hz
  · refine vals_of_at (by unfold sgV; rw [List.length_map]; exact hacc.1.symm) fun j y w h1 h2 => ?_
    obtain ⟨c, u, hc2, rfl⟩ := hacc.2 j w (by rw [← Array.getElem?_toList]; exact h2)
    unfold sgV at h1
    rw [List.getElem?_map, Array.getElem?_toList, hc2] at h1
    cases h1
    exact ⟨u, rfl⟩
  · rw [Array.toArray_toList]; exact hS
end
def rLst1 (K : PySem.W.Frag) : RN := fun xs H Q => (∃ p ys, xs = [.ref p] ∧ (SqL K H p ys ∨ SqT K H p ys) ∧ ∀ l, H l = none → Q (.ref l) (upd H l (.lst ys))) ∨ rLstS xs H Q
/-- repr of plain data -/
def rRepr (K : PySem.W.Frag) : RN := fun xs H Q => ∃ v p, xs = [v] ∧ Dp K H v p ∧ p.showable = true ∧ p.hasDict = false ∧ p.depth ≤ 60 ∧ p.shown.length ≤ sizeLine ∧ Q (.str p.shown) H
theorem call_repr {X : Cx} (gd : X.A.guards = some []) (hu : X.A.units + 64 < cLine) : CallR X (.builtin "repr") (rRepr X.K) := by
  intro pins s σ H xs us Q I r h
  obtain ⟨v, p, rfl, hp, h1, h2, h3, h4, q⟩ := h
  obtain ⟨u, rfl, rx⟩ := vals1 r
  obtain ⟨as, rd⟩ := Dp.reads I p v u hp rx
  cases hp with
  | non => cases rx; exact PySem.P.repr_of_none ⟨.str _, H, I.tok _, ⟨_, rfl⟩, q⟩
  | bl b => cases rx; exact PySem.P.repr_of_bool ⟨.str _, H, I.tok _, ⟨_, rfl⟩, q⟩
  | int i =>
    obtain ⟨t, rfl⟩ := rx
    exact PySem.P.repr_of_int (of_decide_eq_true h1) ⟨.str _, H, I.tok _, ⟨_, rfl⟩, q⟩
  | str x =>
    obtain ⟨t, rfl⟩ := rx
    exact PySem.P.repr_of_str ⟨.str _, H, I.tok _, ⟨_, rfl⟩, q⟩ h4
  | lst hs ha =>
    cases rx
    exact PySem.repr_of_reads' rd h1 (fun z => by rw [h2] at z; cases z) gd (by omega) (fun b o e => e) (fun h' t tk hk => ⟨.str _, H, I.kept hk, ⟨_, rfl⟩, q⟩) h4
  | tup hs ha =>
    cases rx
    exact PySem.repr_of_reads' rd h1 (fun z => by rw [h2] at z; cases z) gd (by omega) (fun b o e => e) (fun h' t tk hk => ⟨.str _, H, I.kept hk, ⟨_, rfl⟩, q⟩) h4
def rDictP (K : PySem.W.Frag) : RN := fun xs H Q => ∃ (a : Addr) (ps : List Addr) (kvs : List (Key × V)), xs = [.ref a] ∧ SqL K H a (ps.map V.ref) ∧ Paired (fun p kv => SqT K H p [kV kv.1, kv.2]) ps kvs ∧ ∀ p, H p = none → Q (.ref p) (upd H p (.dK (mergeK [] kvs)))
/-- sum of a tuple -/
def rSumT (K : PySem.W.Frag) : RN := fun vs H Q => ∃ (a : Addr) (ns : List Int), vs = [V.ref a] ∧ SqT K H a (ns.map V.int) ∧ Q (.int ns.sum) H
open PyProof.Rows in
theorem cr_sumT {X : Cx} (hc : X.calm = true) : CallR X (.builtin "sum") (rSumT X.K) := by
  intro pins s σ H vs us Q I r h
  obtain ⟨a, ns, rfl, hs, q⟩ := h
  obtain ⟨its, rv, hl, _⟩ := I.tuple hs
  rw [Vals.ref1 r]
  have hi := rv.ints
  obtain ⟨xs, e⟩ := hi.allInts.items
  have hn : numsOf (intItems xs).toList = ns := by rw [← e]; exact hi.numsOf
  rw [nums_intItems] at hn
  rw [e] at hl
  refine PySem.W.ktm_sumG (I.ok.hd hc) hl fun h' tk t' hk => ?_
  refine ⟨.int ns.sum, H, I.kept hk, ?_, q⟩
  rw [preSum_eq, List.take_of_length_le (by simp), hn]
  exact ⟨_, rfl⟩
/-- how a built-in is called by name -/
inductive Bf where | b (id : String) | t (id : String)
def bName : Bi → Str
  | .len => "len" | .int => "int" | .abs => "abs" | .str => "str" | .bool => "bool" | .tup => "tuple" | .lst => "list" | .sum => "sum" | .min => "min" | .max => "max" | .all => "all" | .any => "any" | .min2 => "min" | .max2 => "max" | .sorted => "sorted" | .repr => "repr" | .dict => "dict"
def bVal : Bi → Value
  | .len => .builtin "len" | .int => .type "int" | .abs => .builtin "abs" | .str => .type "str" | .bool => .type "bool" | .tup => .type "tuple" | .lst => .type "list" | .sum => .builtin "sum" | .min => .builtin "min" | .max => .builtin "max" | .all => .builtin "all" | .any => .builtin "any" | .min2 => .builtin "min" | .max2 => .builtin "max" | .sorted => .builtin "sorted" | .repr => .builtin "repr" | .dict => .type "dict"
def bRd (K : PySem.W.Frag) : Bi → RN
  | .len => rLen1 K | .int => rInt1 | .abs => rAbs1 | .str => rStrA | .bool => rBool1 | .tup => rTup1 K | .lst => rLst1 K | .sum => (fun xs H Q => rSum K xs H Q ∨ rSumT K xs H Q) | .min => rMin K | .max => rMax K | .all => rAll K | .any => rAny K | .min2 => rMin2A | .max2 => rMax2A | .sorted => rSortedS K | .repr => rRepr K | .dict => rDictP K
theorem bi_ok {X : Cx} (hc : X.calm = true) (gd : X.A.guards = some []) (hu : X.A.units + 64 < cLine) : ∀ b : Bi, CallR X (bVal b) (bRd X.K b)
  | .len => call_len | .int => call_int1 | .abs => call_abs | .str => CallR.or call_str_int SkE.call_str_str | .bool => call_bool1 | .tup => call_tup1 | .lst => CallR.or call_list_of (call_listS hc) | .sum => CallR.or (cr_sum hc) (cr_sumT hc) | .min => cr_min hc | .max => cr_max hc | .all => cr_all hc | .any => cr_any hc
  | .min2 => call_min2 hc | .max2 => call_max2 hc | .sorted => cr_sortedS | .repr => call_repr gd hu | .dict => call_dictP hc
theorem mergeK_new : ∀ (more kvs : List (Key × V)), ((kvs ++ more).map (·.1)).Nodup → mergeK kvs more = kvs ++ more
  | [], kvs, _ => by rw [List.append_nil]; rfl
  | p :: more, kvs, h => by
    have e : putK kvs p.1 p.2 = kvs ++ [p] := by
      unfold putK
      refine if_neg fun z => ?_
      obtain ⟨q, hq, e⟩ := List.any_eq_true.mp z
      rw [List.map_append] at h
      exact (List.nodup_append.mp h).2.2 _ (List.mem_map.mpr ⟨q, hq, rfl⟩) _ (List.mem_map.mpr ⟨p, by simp, rfl⟩) (of_decide_eq_true e)
    show mergeK (putK kvs p.1 p.2) more = _
    rw [e, mergeK_new more (kvs ++ [p]) (by rw [List.append_assoc]; exact h), List.append_assoc]
    rfl
theorem pairs_rep {S : Sg} {F : Hp} : ∀ {xs : List D} {ys : List V} {ks : List Key} {ds : List D}, Reps S F xs ys → pairsD xs = some (ks, ds) → ∃ (ps : List Addr) (kvs : List (Key × V)), ys = ps.map V.ref ∧ Paired (fun p kv => SqT S.K F p [kV kv.1, kv.2]) ps kvs ∧ kvs.map (·.1) = ks ∧ Reps S F ds (kvs.map (·.2))
  | [], ys, ks, ds, h, e => by
    cases e
    cases (show ys = [] from h)
    exact ⟨[], [], rfl, .nil, rfl, rfl⟩
  | .tup [k, d] :: xs, _, ks, ds, ⟨v, vs, rfl, h1, h2⟩, e => by
    have e : (match keyD k, pairsD xs with | some k, some (ks, ds) => some (k :: ks, d :: ds) | _, _ => none) = some (ks, ds) := e
    cases q1 : keyD k with
    | none => rw [q1] at e; cases e
    | some key =>
      cases q2 : pairsD xs with
      | none => rw [q1, q2] at e; cases e
      | some z =>
        obtain ⟨ks', ds'⟩ := z
        rw [q1, q2] at e
        cases e
        obtain ⟨ps, kvs, r1, r2, r3, r4⟩ := pairs_rep h2 q2
        obtain ⟨a, ws, rfl, g1, w1, ws1, rfl, g2, w2, ws2, rfl, g3, g4⟩ := h1
        cases (show ws2 = [] from g4)
        have ek : w1 = kV key := by
          cases k <;> first
            | cases q1
            | skip
          · exact g2
          · exact g2
        subst ek
        exact ⟨a :: ps, (key, w2) :: kvs, by rw [r1]; rfl, .cons g1 r2, by rw [List.map_cons, r3], ⟨w2, _, rfl, g3, r4⟩⟩
  | .non :: _, _, _, _, _, e => by cases e
  | .bl _ :: _, _, _, _, _, e => by cases e
  | .int _ :: _, _, _, _, _, e => by cases e
  | .str _ :: _, _, _, _, _, e => by cases e
  | .lst _ :: _, _, _, _, _, e => by cases e
  | .rol _ :: _, _, _, _, _, e => by cases e
  | .tpn _ :: _, _, _, _, _, e => by cases e
  | .obj _ _ :: _, _, _, _, _, e => by cases e
  | .dct _ _ :: _, _, _, _, _, e => by cases e
  | .tup [] :: _, _, _, _, _, e => by cases e
  | .tup [_] :: _, _, _, _, _, e => by cases e
  | .tup (_ :: _ :: _ :: _) :: _, _, _, _, _, e => by cases e
theorem reps_sg {S : Sg} {F : Hp} (z : Str) : Reps S F (strItems z) (sgV z) := by
  unfold strItems sgV
  generalize z.cps.toList = l
  induction l with
  | nil => exact rfl
  | cons c l ih => exact ⟨_, _, rfl, rfl, ih⟩
theorem bi_s {S : Sg} (b : Bi) : OpN S (bRd S.K b) (biop b) := by
  intro Z F env σ H ds vs Q Q' s hp h k
  have one : ∀ {d : D}, ds = [d] → ∃ v, vs = [v] ∧ Rd S F H d v := fun e => by subst e; exact one_rd hp
  have two : ∀ {d e : D}, ds = [d, e] → ∃ v u, vs = [v, u] ∧ Rd S F H d v ∧ Rd S F H e u := fun e => by subst e; exact two_rd hp
  unfold biop at h
  split at h
  · obtain ⟨v, rfl, r⟩ := one rfl
    exact ⟨_, _, rfl, by rw [r.str]; exact ⟨lim_le h.1, rfl⟩, fin_val s h.2 rfl k⟩
  · obtain ⟨v, rfl, r⟩ := one rfl
    obtain ⟨a, ys, rfl, h1, h2⟩ := r.lst s.same
    exact ⟨_, _, rfl, .inl ⟨ys, SqL.of h1, h2.length.symm⟩, fin_val s h rfl k⟩
  · obtain ⟨v, rfl, r⟩ := one rfl
    obtain ⟨a, ys, rfl, h1, h2⟩ := r.tup s.same
    exact ⟨_, _, rfl, .inr ⟨ys, h1, h2.length.symm⟩, fin_val s h rfl k⟩
  · obtain ⟨v, rfl, r⟩ := one rfl
    obtain ⟨a, ys, rfl, h1, h2⟩ := r.rol s.same
    exact ⟨_, _, rfl, .inl ⟨ys, h1, h2.length.symm⟩, fin_val s h rfl k⟩
  · obtain ⟨v, rfl, r⟩ := one rfl
    obtain ⟨a, ys, rfl, _, h1, h2⟩ := r.tpn s.same
    exact ⟨_, _, rfl, .inr ⟨ys, h1, h2.length.symm⟩, fin_val s h rfl k⟩
  · obtain ⟨v, rfl, r⟩ := one rfl
    exact .inl ⟨_, by rw [r.int], fin_val s h rfl k⟩
  · obtain ⟨v, rfl, r⟩ := one rfl
    exact .inr ⟨_, by rw [r.bl], fin_val s h rfl k⟩
  · obtain ⟨v, rfl, r⟩ := one rfl
    exact ⟨_, by rw [r.int], fin_val s h rfl k⟩
  · obtain ⟨v, rfl, r⟩ := one rfl
    exact .inl ⟨_, by rw [r.int], h.1, fin_val s h.2 rfl k⟩
  · obtain ⟨v, rfl, r⟩ := one rfl
    exact .inr ⟨_, by rw [r.str], fin_val s h rfl k⟩
  · obtain ⟨v, rfl, r⟩ := one rfl
    exact .inl ⟨_, by rw [r.int], fin_val s h rfl k⟩
  · obtain ⟨v, rfl, r⟩ := one rfl
    exact .inr ⟨_, by rw [r.bl], fin_val s h rfl k⟩
  · obtain ⟨v, rfl, r⟩ := one rfl
    obtain ⟨a, ys, rfl, h1, h2⟩ := r.lst s.same
    exact ⟨_, _, rfl, .inl ⟨SqL.of h1, fin_tpn s h h2 k⟩⟩
  · obtain ⟨v, rfl, r⟩ := one rfl
    have r' := r
    obtain ⟨a, ys, rfl, h1, h2⟩ := r.tup s.same
    refine ⟨_, _, rfl, .inr ⟨h1, ?_⟩⟩
    rcases r' with r' | ⟨_, _, _, _, hf⟩
    · exact fin_val s h r' k
    · exact False.elim hf
  · obtain ⟨v, rfl, r⟩ := one rfl
    have r' := r
    obtain ⟨a, ys, rfl, _, h1, h2⟩ := r.tpn s.same
    refine ⟨_, _, rfl, .inr ⟨h1, ?_⟩⟩
    rcases r' with r' | ⟨_, _, _, _, hf⟩
    · exact fin_val s h r' k
    · exact False.elim hf
  · obtain ⟨v, rfl, r⟩ := one rfl
    obtain ⟨a, ys, rfl, h1, h2⟩ := r.lst s.same
    exact .inl ⟨_, _, rfl, .inl (SqL.of h1), fin_new s h h2 k⟩
  · obtain ⟨v, rfl, r⟩ := one rfl
    obtain ⟨a, ys, rfl, h1, h2⟩ := r.tup s.same
    exact .inl ⟨_, _, rfl, .inr h1, fin_new s h h2 k⟩
  · obtain ⟨v, rfl, r⟩ := one rfl
    obtain ⟨a, ys, rfl, _, h1, h2⟩ := r.tpn s.same
    exact .inl ⟨_, _, rfl, .inr h1, fin_new s h h2 k⟩
  · obtain ⟨v, rfl, r⟩ := one rfl
    exact .inr ⟨_, by rw [r.str], lim_le h.1, fin_new s h.2 (reps_sg _) k⟩
  · obtain ⟨v, rfl, r⟩ := one rfl
    obtain ⟨a, ys, rfl, h1, h2⟩ := r.lst s.same
    split at h
    · rename_i ns e
      exact .inl ⟨a, ns, rfl, by rw [← ints_rep h2 e]; exact SqL.of h1, fin_val s h rfl k⟩
    · exact False.elim h
  · obtain ⟨v, rfl, r⟩ := one rfl
    obtain ⟨a, ys, rfl, h1, h2⟩ := r.tup s.same
    split at h
    · rename_i ns e
      exact .inr ⟨a, ns, rfl, by rw [← ints_rep h2 e]; exact h1, fin_val s h rfl k⟩
    · exact False.elim h
  · obtain ⟨v, rfl, r⟩ := one rfl
    obtain ⟨a, ys, rfl, _, h1, h2⟩ := r.tpn s.same
    split at h
    · rename_i ns e
      exact .inr ⟨a, ns, rfl, by rw [← ints_rep h2 e]; exact h1, fin_val s h rfl k⟩
    · exact False.elim h
  · obtain ⟨v, rfl, r⟩ := one rfl
    obtain ⟨a, ys, rfl, h1, h2⟩ := r.lst s.same
    split at h
    · rename_i ns e
      exact ⟨a, ns, rfl, by rw [← ints_rep h2 e]; exact SqL.of h1, h.1, fun m h3 h4 => fin_val s (h.2 m h3 h4) rfl k⟩
    · exact False.elim h
  · obtain ⟨v, rfl, r⟩ := one rfl
    obtain ⟨a, ys, rfl, h1, h2⟩ := r.lst s.same
    split at h
    · rename_i ns e
      exact ⟨a, ns, rfl, by rw [← ints_rep h2 e]; exact SqL.of h1, h.1, fun m h3 h4 => fin_val s (h.2 m h3 h4) rfl k⟩
    · exact False.elim h
  · obtain ⟨v, rfl, r⟩ := one rfl
    obtain ⟨a, ys, rfl, h1, h2⟩ := r.lst s.same
    split at h
    · rename_i ns e
      exact ⟨a, ns, rfl, by rw [← bools_rep h2 e]; exact SqL.of h1, fin_val s h rfl k⟩
    · exact False.elim h
  · obtain ⟨v, rfl, r⟩ := one rfl
    obtain ⟨a, ys, rfl, h1, h2⟩ := r.lst s.same
    split at h
    · rename_i ns e
      exact ⟨a, ns, rfl, by rw [← bools_rep h2 e]; exact SqL.of h1, fin_val s h rfl k⟩
    · exact False.elim h
  · obtain ⟨v, rfl, r⟩ := one rfl
    obtain ⟨a, ys, rfl, h1, h2⟩ := r.lst s.same
    split at h
    · rename_i ns e
      exact ⟨a, ns, rfl, by rw [← strs_rep h2 e]; exact SqL.of h1, h.1, fun zs p h3 h4 h5 => fin_new s (h.2 zs h3 h4) (reps_strs zs) k p h5⟩
    · exact False.elim h
  · obtain ⟨v, rfl, r⟩ := one rfl
    obtain ⟨a, ys, rfl, h1, h2⟩ := r.lst s.same
    split at h
    · rename_i ks ds e
      obtain ⟨ps, kvs, e1, e2, e3, e4⟩ := pairs_rep h2 e
      refine ⟨a, ps, kvs, rfl, by rw [← e1]; exact SqL.of h1, L2.Paired.mapP e2 fun _ _ z => sqt_mono s.same z, fun p hp => ?_⟩
      have em : mergeK [] kvs = kvs := mergeK_new kvs [] (by rw [List.nil_append, e3]; exact h.1)
      rw [em]
      exact k F _ _ (.fr (.dct ks ds)) h.2 (Same.refl F) (sr_newH s hp) (mine_new s hp ⟨kvs, rfl, e3, e4⟩)
    · exact False.elim h
  · obtain ⟨v, u, rfl, r, r'⟩ := two rfl
    exact ⟨_, _, by rw [r.int, r'.int], fin_val s h rfl k⟩
  · obtain ⟨v, u, rfl, r, r'⟩ := two rfl
    exact ⟨_, _, by rw [r.int, r'.int], fin_val s h rfl k⟩
  · obtain ⟨v, rfl, r⟩ := one rfl
    split at h
    · rename_i p e
      obtain ⟨⟨h1, h2, h3, h4⟩, h⟩ := h
      exact ⟨v, p, rfl, rd_dp s.same r e, h1, h2, h3, lim_le h4, fin_val s h rfl k⟩
    · exact False.elim h
  · exact False.elim h
end PV

/-! PV: readings of HandS follow from the data's words. -/
namespace PV
open PySem L2

/-! ### readings -/
def RS (S : Sg) (t : TE) (w : WR) : Prop :=
  ∀ (Z F : Hp) (env : Ev) (σ : L2.St) (H : Hp) (Q : RR → Ev → Prop) (Q' : VK), SR S Z F env σ H → w env Q →
    (∀ F' H' v r env', Q r env' → Same F F' → SR S Z F' env' σ H' → RRel S Z F' H' σ env' r v → Q' v H') → t σ H Q'
def RT (S : Sg) (t : TT) (w : WT) : Prop :=
  ∀ (Z F : Hp) (env : Ev) (σ : L2.St) (H : Hp) (Q : Bool → Ev → Prop) (Q' : Bool → Hp → Prop), SR S Z F env σ H → w env Q →
    (∀ F' H' b env', Q b env' → Same F F' → SR S Z F' env' σ H' → Q' b H') → t σ H Q'
/-- new objects among results -/
def frVs : List RR → List V → List V
  | .fr _ :: rs, v :: vs => v :: frVs rs vs
  | _ :: rs, _ :: vs => frVs rs vs
  | _, _ => []
def RsOk (S : Sg) (Z Z' F : Hp) (σ : L2.St) : List RR → List V → Prop
  | [], vs => vs = []
  | r :: rs, vs => ∃ v us, vs = v :: us ∧ RsOk S Z Z' F σ rs us ∧ (match r with
    | .val d => Rep S F d v
    | .sl i => σ[i]? = some (some v)
    | .fr d => ∃ a o, v = .ref a ∧ Z' a = some o ∧ Z a = none ∧ Cell S F d o ∧ V.ref a ∉ frVs rs us)
def RL (S : Sg) (t : TA) (w : Ev → (List RR → Ev → Prop) → Prop) : Prop :=
  ∀ (Z F : Hp) (env : Ev) (σ : L2.St) (H : Hp) (Q : List RR → Ev → Prop) (Q' : List V → Hp → Prop), SR S Z F env σ H → w env Q →
    (∀ Z' F' H' vs rs env', Q rs env' → (∀ a o, Z a = some o → Z' a = some o) → Same F F' → SR S Z' F' env' σ H' → RsOk S Z Z' F' σ rs vs → Q' vs H') → t σ H Q'

section
variable {S : Sg}
theorem zx_le' {Z F H : Hp} {σ : L2.St} {env : Ev} {r : RR} {v : V} (q : RRel S Z F H σ env r v) : ∀ a o, Z a = some o → Zx Z H r v a = some o := zx_le q
/-- a result, looked at behind a further part -/
theorem RS.then_ {t : TE} {w : WR} (h : RS S t w) {Z F H : Hp} {env : Ev} {σ : L2.St} {Q : RR → Ev → Prop} {Q' : VK} (s : SR S Z F env σ H) (hw : w env Q)
    (k : ∀ F' H' v r env', Q r env' → Same F F' → SR S Z F' env' σ H' → RRel S Z F' H' σ env' r v → Q' v H') : t σ H Q' := h Z F env σ H Q Q' s hw k
theorem rdK_some {env : Ev} {r : RR} {k : D → Prop} (h : rdK env r k) : ∃ d, rdR env r = some d ∧ k d := by
  unfold rdK at h
  cases q : rdR env r with
  | none => rw [q] at h; exact False.elim h
  | some d => rw [q] at h; exact ⟨d, rfl, h⟩
theorem RS.tst {t : TE} {w : WR} (h : RS S t w) {K : PySem.W.Frag} (hK : S.K = K) : RT S (fun σ H Q => t σ H fun x H' => ∃ k, TruV K x H' k ∧ Q k H') (tst w) := by
  intro Z F env σ H Q Q' s hw k
  subst hK
  refine h Z F env σ H _ _ s hw fun F' H' v r env' q e s' rr => ?_
  obtain ⟨d, h1, q⟩ := rdK_some q
  cases h2 : truthD d with
  | none => rw [h2] at q; exact False.elim q
  | some b =>
    rw [h2] at q
    refine ⟨b, ?_, k F' H' b env' q e s'⟩
    have rd := now_rr s' rr h1
    cases d with
    | non => rw [rd.non]; cases h2; rfl
    | bl c => rw [rd.bl]; cases h2; rfl
    | int i => rw [rd.int]; cases h2; rfl
    | str x =>
      rw [rd.str]
      have h2 : (if x.length ≤ LIM then some ((x.length : Int) != 0) else none) = some b := h2
      by_cases hz : x.length ≤ LIM
      · rw [if_pos hz] at h2; cases h2; exact ⟨lim_le hz, rfl⟩
      · rw [if_neg hz] at h2; cases h2
    | lst xs =>
      obtain ⟨a, ys, rfl, g1, g2⟩ := rd.lst s'.same
      cases h2
      refine .inl ⟨ys, SqL.of g1, ?_⟩
      have := g2.length
      cases xs <;> cases ys <;> first | rfl | (simp at this)
    | rol xs =>
      obtain ⟨a, ys, rfl, g1, g2⟩ := rd.rol s'.same
      cases h2
      refine .inl ⟨ys, g1, ?_⟩
      have := g2.length
      cases xs <;> cases ys <;> first | rfl | (simp at this)
    | tup xs =>
      obtain ⟨a, ys, rfl, g1, g2⟩ := rd.tup s'.same
      cases h2
      refine .inr (.inl ⟨ys, g1, ?_⟩)
      have := g2.length
      cases xs <;> cases ys <;> first | rfl | (simp at this)
    | tpn xs =>
      obtain ⟨a, ys, rfl, _, g1, g2⟩ := rd.tpn s'.same
      cases h2
      refine .inr (.inl ⟨ys, g1, ?_⟩)
      have := g2.length
      cases xs <;> cases ys <;> first | rfl | (simp at this)
    | obj c xs => cases h2
    | dct ks ds => cases h2

/-- two parts, then an operation -/
theorem RS.two {ta tb : TE} {wa wb : WR} (ha : RS S ta wa) (hb : RS S tb wb) {Z F H : Hp} {env : Ev} {σ : L2.St} {P : D → D → Ev → Prop} {R : V → V → Hp → Prop} (s : SR S Z F env σ H)
    (hw : wa env fun r1 e1 => wb e1 fun r2 e2 => rdK e2 r1 fun d1 => rdK e2 r2 fun d2 => P d1 d2 e2)
    (k : ∀ Z' F' H' x y d1 d2 env', P d1 d2 env' → (∀ a o, Z a = some o → Z' a = some o) → Same F F' → SR S Z' F' env' σ H' → Rd S F' H' d1 x → Rd S F' H' d2 y → R x y H') : ta σ H fun x H1 => tb σ H1 fun y H2 => R x y H2 := by
  refine ha Z F env σ H _ _ s hw fun F1 H1 x r1 e1 q1 s1 i1 rr1 => ?_
  refine hb _ F1 e1 σ H1 _ _ (zx_sr i1 rr1) q1 fun F2 H2 y r2 e2 q2 s2 i2 rr2 => ?_
  obtain ⟨d1, g1, q2⟩ := rdK_some q2
  obtain ⟨d2, g2, q2⟩ := rdK_some q2
  exact k _ F2 H2 x y d1 d2 e2 q2 (zx_le rr1) (s1.trans s2) i2 (keep_rr rr1 s2 i2 g1) (now_rr i2 rr2 g2)
theorem RS.bin {ta tb : TE} {wa wb : WR} (ha : RS S ta wa) (hb : RS S tb wb) {r : R2} {op : D → D → (RR → Prop) → Prop} (ho : OpS S r op) :
    RS S (tOp r ta tb) (fun env Q => wa env fun r1 e1 => wb e1 fun r2 e2 => rdK e2 r1 fun d1 => rdK e2 r2 fun d2 => op d1 d2 fun r => Q r e2) := by
  intro Z F env σ H Q Q' s hw k
  refine RS.two ha hb (P := fun d1 d2 e2 => op d1 d2 fun r => Q r e2) (R := fun x y H2 => r x y H2 Q') s hw fun Z' F' H' x y d1 d2 env' p le e s' r1 r2 => ?_
  refine ho Z' F' env' σ H' d1 d2 x y _ _ s' r1 r2 p fun F2 H2 v r q e2 s2 rr => ?_
  exact k F2 H2 v r env' q (e.trans e2) (sr_weak le s2) (rrel_weak le rr)
theorem RS.binB {ta tb : TE} {wa wb : WR} (ha : RS S ta wa) (hb : RS S tb wb) {r : R2} {op : D → D → (Bool → Prop) → Prop} (ho : OpB S r op) :
    RS S (tOp r ta tb) (fun env Q => wa env fun r1 e1 => wb e1 fun r2 e2 => rdK e2 r1 fun d1 => rdK e2 r2 fun d2 => op d1 d2 fun b => Q (.val (.bl b)) e2) := by
  intro Z F env σ H Q Q' s hw k
  refine RS.two ha hb (P := fun d1 d2 e2 => op d1 d2 fun b => Q (.val (.bl b)) e2) (R := fun x y H2 => r x y H2 Q') s hw fun Z' F' H' x y d1 d2 env' p le e s' r1 r2 => ?_
  exact ho Z' F' env' σ H' d1 d2 x y _ _ s' r1 r2 p fun b q => k F' H' (.bl b) _ env' q e (sr_weak le s') rfl
theorem RS.val {t : TE} {d : D} {v : V} (h : ∀ σ H Q, Q v H → t σ H Q) (r : ∀ F, Rep S F d v) : RS S t (fun env Q => Q (.val d) env) := fun Z F env σ H Q Q' s hw k =>
  h σ H Q' (k F H v (.val d) env hw (Same.refl F) s (r F))
theorem RS.var {i : Nat} : RS S (tVar i) (fun env Q => match env[i]? with
    | some (.val d) => Q (.val d) env
    | some (.own _) => Q (.sl i) env
    | _ => False) := by
  intro Z F env σ H Q Q' s hw k
  cases q : env[i]? with
  | none => simp only [q] at hw
  | some x =>
    cases x with
    | un => simp only [q] at hw
    | val d =>
      simp only [q] at hw
      obtain ⟨v, h1, h2⟩ := s.val i d q
      exact ⟨v, h1, k F H v (.val d) env hw (Same.refl F) s h2⟩
    | own d =>
      simp only [q] at hw
      obtain ⟨a, o, h1, _⟩ := s.own i d q
      exact ⟨_, h1, k F H _ (.sl i) env hw (Same.refl F) s ⟨⟨d, q⟩, h1⟩⟩
theorem RS.neg {t : TE} {w : WR} (h : RS S t w) : RS S (tUn (rU fun i => .int (-i)) t) (fun env Q => w env fun r e1 => rdK e1 r fun d => match d with | .int i => Q (.val (.int (-i))) e1 | _ => False) := by
  intro Z F env σ H Q Q' s hw k
  refine h Z F env σ H _ _ s hw fun F1 H1 x r1 e1 q1 s1 i1 rr1 => ?_
  obtain ⟨d1, g1, q1⟩ := rdK_some q1
  cases d1 with
  | int i =>
    have rd := now_rr i1 rr1 g1
    exact ⟨i, rd.int, k F1 H1 _ _ e1 q1 s1 i1 rfl⟩
  | _ => exact False.elim q1
theorem RS.notV {t : TE} {w : WR} (h : RS S t w) : RS S (tNotV t) (fun env Q => w env fun r e1 => rdK e1 r fun d => match d with | .bl b => Q (.val (.bl (!b))) e1 | _ => False) := by
  intro Z F env σ H Q Q' s hw k
  refine h Z F env σ H _ _ s hw fun F1 H1 x r1 e1 q1 s1 i1 rr1 => ?_
  obtain ⟨d1, g1, q1⟩ := rdK_some q1
  cases d1 with
  | bl i =>
    have rd := now_rr i1 rr1 g1
    exact ⟨i, rd.bl, k F1 H1 _ _ e1 q1 s1 i1 rfl⟩
  | _ => exact False.elim q1
theorem RT.not {t : TT} {w : WT} (h : RT S t w) : RT S (tNot t) (fun env Q => w env fun b e1 => Q (!b) e1) := fun Z F env σ H Q Q' s hw k =>
  h Z F env σ H _ _ s hw fun F1 H1 b e1 q1 s1 i1 => k F1 H1 (!b) e1 q1 s1 i1
theorem RS.ite {tc : TT} {wc : WT} {ta tb : TE} {wa wb : WR} (hc : RT S tc wc) (ha : RS S ta wa) (hb : RS S tb wb) : RS S (tIf tc ta tb) (fun env Q => wc env fun t e1 => ifB t (wa e1 Q) (wb e1 Q)) := by
  intro Z F env σ H Q Q' s hw k
  refine hc Z F env σ H _ _ s hw fun F1 H1 b e1 q1 s1 i1 => ?_
  cases b with
  | true => exact ha Z F1 e1 σ H1 Q Q' i1 (ifB_t q1) fun F2 H2 v r e2 q e i rr => k F2 H2 v r e2 q (s1.trans e) i rr
  | false => exact hb Z F1 e1 σ H1 Q Q' i1 (ifB_f q1) fun F2 H2 v r e2 q e i rr => k F2 H2 v r e2 q (s1.trans e) i rr
theorem RS.andV {ta tb : TE} {wa wb : WR} (ha : RS S ta wa) (hb : RS S tb wb) : RS S (tAndV ta tb) (fun env Q => wa env fun r e1 => rdK e1 r fun d => match d with
        | .bl b => ifB b (wb e1 Q) (Q (.val (.bl false)) e1)
        | _ => False) := by
  intro Z F env σ H Q Q' s hw k
  refine ha Z F env σ H _ _ s hw fun F1 H1 x r1 e1 q1 s1 i1 rr1 => ?_
  obtain ⟨d1, g1, q1⟩ := rdK_some q1
  cases d1 with
  | bl b =>
    have rd := now_rr i1 rr1 g1
    refine ⟨b, rd.bl, ?_⟩
    cases b with
    | true => exact hb Z F1 e1 σ H1 Q Q' i1 (ifB_t q1) fun F2 H2 v r e2 q e i rr => k F2 H2 v r e2 q (s1.trans e) i rr
    | false => exact k F1 H1 _ _ e1 (ifB_f q1) s1 i1 rfl
  | _ => exact False.elim q1
theorem RS.orV {ta tb : TE} {wa wb : WR} (ha : RS S ta wa) (hb : RS S tb wb) : RS S (tOrV ta tb) (fun env Q => wa env fun r e1 => rdK e1 r fun d => match d with
        | .bl b => ifB b (Q (.val (.bl true)) e1) (wb e1 Q)
        | _ => False) := by
  intro Z F env σ H Q Q' s hw k
  refine ha Z F env σ H _ _ s hw fun F1 H1 x r1 e1 q1 s1 i1 rr1 => ?_
  obtain ⟨d1, g1, q1⟩ := rdK_some q1
  cases d1 with
  | bl b =>
    have rd := now_rr i1 rr1 g1
    refine ⟨b, rd.bl, ?_⟩
    cases b with
    | false => exact hb Z F1 e1 σ H1 Q Q' i1 (ifB_f q1) fun F2 H2 v r e2 q e i rr => k F2 H2 v r e2 q (s1.trans e) i rr
    | true => exact k F1 H1 _ _ e1 (ifB_t q1) s1 i1 rfl
  | _ => exact False.elim q1
theorem RT.and {ta tb : TT} {wa wb : WT} (ha : RT S ta wa) (hb : RT S tb wb) : RT S (tAnd ta tb) (fun env Q => wa env fun b e1 => ifB b (wb e1 Q) (Q false e1)) := by
  intro Z F env σ H Q Q' s hw k
  refine ha Z F env σ H _ _ s hw fun F1 H1 b e1 q1 s1 i1 => ?_
  cases b with
  | true => exact hb Z F1 e1 σ H1 Q Q' i1 (ifB_t q1) fun F2 H2 b e2 q e i => k F2 H2 b e2 q (s1.trans e) i
  | false => exact k F1 H1 false e1 (ifB_f q1) s1 i1
theorem RT.or {ta tb : TT} {wa wb : WT} (ha : RT S ta wa) (hb : RT S tb wb) : RT S (tOr ta tb) (fun env Q => wa env fun b e1 => ifB b (Q true e1) (wb e1 Q)) := by
  intro Z F env σ H Q Q' s hw k
  refine ha Z F env σ H _ _ s hw fun F1 H1 b e1 q1 s1 i1 => ?_
  cases b with
  | false => exact hb Z F1 e1 σ H1 Q Q' i1 (ifB_f q1) fun F2 H2 b e2 q e i => k F2 H2 b e2 q (s1.trans e) i
  | true => exact k F1 H1 true e1 (ifB_t q1) s1 i1
theorem RS.chain {ta tb tc : TE} {wa wb wc : WR} (ha : RS S ta wa) (hb : RS S tb wb) (hc : RS S tc wc) {r r' : R2} {o o' : D → D → (Bool → Prop) → Prop} (ho : OpB S r o) (ho' : OpB S r' o') :
    RS S (tChain r r' ta tb tc) (fun env Q => wa env fun r1 e1 => wb e1 fun r2 e2 => rdK e2 r1 fun d1 => rdK e2 r2 fun d2 => o d1 d2 fun t =>
      ifB t (wc e2 fun r3 e3 => rdK e3 r2 fun d2' => rdK e3 r3 fun d3 => o' d2' d3 fun t' => Q (.val (.bl t')) e3) (Q (.val (.bl false)) e2)) := by
  intro Z F env σ H Q Q' s hw k
  refine ha Z F env σ H _ _ s hw fun F1 H1 x r1 e1 q1 s1 i1 rr1 => ?_
  refine hb _ F1 e1 σ H1 _ _ (zx_sr i1 rr1) q1 fun F2 H2 y r2 e2 q2 s2 i2 rr2 => ?_
  obtain ⟨d1, g1, q2⟩ := rdK_some q2
  obtain ⟨d2, g2, q2⟩ := rdK_some q2
  refine ho _ F2 e2 σ H2 d1 d2 x y _ _ i2 (keep_rr rr1 s2 i2 g1) (now_rr i2 rr2 g2) q2 fun b q3 => ⟨b, rfl, ?_⟩
  cases b with
  | false => exact k F2 H2 _ _ e2 (ifB_f q3) (s1.trans s2) (sr_weak (zx_le rr1) i2) rfl
  | true =>
    refine hc _ F2 e2 σ H2 _ _ (zx_sr i2 rr2) (ifB_t q3) fun F3 H3 z r3 e3 q3 s3 i3 rr3 => ?_
    obtain ⟨d2', g2', q3⟩ := rdK_some q3
    obtain ⟨d3, g3, q3⟩ := rdK_some q3
    exact ho' _ F3 e3 σ H3 d2' d3 y z _ _ i3 (keep_rr rr2 s3 i3 g2') (now_rr i3 rr3 g3) q3 fun b q => k F3 H3 _ _ e3 q ((s1.trans s2).trans s3) (sr_weak (fun a o h => zx_le rr2 a o (zx_le rr1 a o h)) i3) rfl
theorem RS.idx {ta tb : TE} {wa wb : WR} (ha : RS S ta wa) (hb : RS S tb wb) : RS S (tOp (rIxA S.K) ta tb) (fun env Q => wa env fun r1 e1 => wb e1 fun r2 e2 => rdK e2 r1 fun d1 => rdK e2 r2 fun d2 => match d2 with
    | .int n => ∃ d, idxD d1 n = some d ∧ Q (.val d) e2
    | _ => False) := by
  intro Z F env σ H Q Q' s hw k
  refine RS.two ha hb (P := fun d1 d2 e2 => match d2 with
    | .int n => ∃ d, idxD d1 n = some d ∧ Q (.val d) e2
    | _ => False) (R := fun x y H2 => rIxA S.K x y H2 Q') s hw fun Z' F' H' x y d1 d2 env' p le e s' r1 r2 => ?_
  cases d2 with
  | int n =>
    obtain ⟨d, h, q⟩ := p
    exact s_idx s' r1 r2 h fun v hv => k F' H' v (.val d) env' q e (sr_weak le s') hv
  | _ => exact False.elim p
theorem RS.fld {t : TE} {w : WR} {c n : Nat} {f : Str} (h : RS S t w) (cl : Cls S.K (S.ca c)) (na : NoAttr S.K (S.ca c) f) (hf : (S.lay c)[n]? = some f) (nd : (S.lay c).Nodup) :
    RS S (tFld S.K t f) (fun env Q => w env fun r e1 => rdK e1 r fun d => match d with
    | .obj c' ds => c' = c ∧ ∃ x, ds[n]? = some x ∧ Q (.val x) e1
    | _ => False) := by
  intro Z F env σ H Q Q' s hw k
  refine h Z F env σ H _ _ s hw fun F1 H1 x r1 e1 q1 s1 i1 rr1 => ?_
  obtain ⟨d1, g1, q1⟩ := rdK_some q1
  cases d1 with
  | obj c' ds =>
    obtain ⟨rfl, y, hy, q1⟩ := q1
    obtain ⟨a, dx, fs, rfl, h1, h2, h3⟩ := (now_rr i1 rr1 g1).obj i1.same
    obtain ⟨v, hv, rv⟩ := h3.get hy
    have hl : fs.lookup f = some v := by
      have key : ∀ (fs : List (Str × V)) (l : List Str) (n : Nat), l.Nodup → fs.map (·.1) = l → l[n]? = some f → (fs.map (·.2))[n]? = some v → fs.lookup f = some v := by
        intro fs
        induction fs with
        | nil => intro l n _ e h1 h2; simp at h2
        | cons p fs ih =>
          intro l n nd e h1 h2
          obtain ⟨g, w⟩ := p
          cases n with
          | zero =>
            subst e
            simp at h1 h2
            subst h1 h2
            simp [List.lookup]
          | succ n =>
            subst e
            simp at h1 h2 nd
            have ne : (f == g) = false := by
              apply beq_eq_false_iff_ne.mpr
              rintro rfl
              obtain ⟨b, hb⟩ := h1
              exact nd.1 _ (List.mem_of_getElem? hb)
            simp only [List.lookup, ne]
            refine ih (fs.map (·.1)) n nd.2 rfl ?_ ?_
            · simpa using h1
            · simpa using h2
      refine key fs _ n (nd.sublist (List.take_sublist ds.length _)) h2 ?_ hv
      have hn : n < ds.length := (List.getElem?_eq_some_iff.mp hy).1
      rw [List.getElem?_take_of_lt hn]; exact hf
    exact ⟨a, _, dx, fs, v, rfl, h1, cl, na, hl, k F1 H1 v (.val y) e1 q1 s1 i1 rv⟩
  | _ => exact False.elim q1
/-- a result, made good -/
theorem frz_ok {Z F H : Hp} {env : Ev} {σ : L2.St} {r : RR} {v : V} {Q : D → Ev → Prop} (s : SR S Z F env σ H) (rr : RRel S Z F H σ env r v) (h : frz r env Q) :
    ∃ F' d env', Same F F' ∧ SR S Z F' env' σ H ∧ Rep S F' d v ∧ Q d env' := by
  cases r with
  | val d => exact ⟨F, d, env, Same.refl F, s, rr, h⟩
  | fr d =>
    obtain ⟨F', e, s', r'⟩ := freeze s rr
    exact ⟨F', d, env, e, s', r', h⟩
  | sl i =>
    obtain ⟨⟨d, hd⟩, hv⟩ := rr
    have h : Q d (env.set i (.val d)) := by
      unfold frz at h
      simp only [hd] at h
      exact h
    obtain ⟨F', e, s', r'⟩ := freeze_slot s hd hv
    exact ⟨F', d, _, e, s', r', h⟩
theorem RS.froz {t : TE} {w : WR} (h : RS S t w) : RS S t (fun env Q => w env fun r e1 => frz r e1 fun d e2 => Q (.val d) e2) := by
  intro Z F env σ H Q Q' s hw k
  refine h Z F env σ H _ _ s hw fun F1 H1 x r1 e1 q1 s1 i1 rr1 => ?_
  obtain ⟨F2, d, e2, s2, i2, r2, q2⟩ := frz_ok i1 rr1 q1
  exact k F2 H1 x (.val d) e2 q2 (s1.trans s2) i2 r2
theorem RL.nil : RL S tNil (fun env Q => Q [] env) := fun Z F env σ H Q Q' s hw k => k Z F H [] [] env hw (fun _ _ h => h) (Same.refl F) s rfl
theorem rsok_weak {Z Z1 Z' F : Hp} {σ : L2.St} (le : ∀ a o, Z a = some o → Z1 a = some o) : ∀ {rs : List RR} {vs : List V}, RsOk S Z1 Z' F σ rs vs → RsOk S Z Z' F σ rs vs
  | [], _, h => h
  | r :: rs, _, ⟨v, us, e, h, h2⟩ => by
    refine ⟨v, us, e, rsok_weak le h, ?_⟩
    cases r with
    | val d => exact h2
    | sl i => exact h2
    | fr d =>
      obtain ⟨a, o, h3, h4, h5, h6⟩ := h2
      refine ⟨a, o, h3, h4, ?_, h6⟩
      cases q : Z a with
      | none => rfl
      | some u => rw [le a u q] at h5; cases h5
theorem fr_new {Z1 Z' F : Hp} {σ : L2.St} : ∀ {rs : List RR} {vs : List V}, RsOk S Z1 Z' F σ rs vs → ∀ v ∈ frVs rs vs, ∃ a, v = .ref a ∧ Z1 a = none
  | [], vs, h, v, m => by cases (show vs = [] from h); simp [frVs] at m
  | r :: rs, _, ⟨w, us, e, h, h2⟩, v, m => by
    subst e
    cases r with
    | val d => exact fr_new h v m
    | sl i => exact fr_new h v m
    | fr d =>
      obtain ⟨a, o, h3, h4, h5, h6⟩ := h2
      rcases List.mem_cons.mp m with e | m
      · exact ⟨a, by rw [e, h3], h5⟩
      · exact fr_new h v m
theorem RL.cons {t : TE} {w : WR} {tr : TA} {wr : Ev → (List RR → Ev → Prop) → Prop} (h : RS S t w) (hr : RL S tr wr) : RL S (tCons t tr) (fun env Q => w env fun r e1 => wr e1 fun rs e2 => Q (r :: rs) e2) := by
  intro Z F env σ H Q Q' s hw k
  refine h Z F env σ H _ _ s hw fun F1 H1 x r1 e1 q1 s1 i1 rr1 => ?_
  refine hr _ F1 e1 σ H1 _ _ (zx_sr i1 rr1) q1 fun Z2 F2 H2 vs rs e2 q2 le s2 i2 ok => ?_
  refine k Z2 F2 H2 (x :: vs) (r1 :: rs) e2 q2 (fun a o h => le a o (zx_le rr1 a o h)) (s1.trans s2) i2 ⟨x, vs, rfl, rsok_weak (zx_le rr1) ok, ?_⟩
  cases r1 with
  | val d => exact Rep.mono s2 _ _ rr1
  | sl i => exact rr1.2
  | fr d =>
    obtain ⟨a, o, rfl, h2, h3, h4, h5, h6⟩ := rr1
    have hz : Zx Z H1 (.fr d) (.ref a) a = some o := by
      show (if a = a then H1 a else Z a) = some o
      rw [if_pos rfl]; exact h2
    refine ⟨a, o, rfl, le a o hz, h5, h3.mono s2, fun m => ?_⟩
    obtain ⟨b, e, hb⟩ := fr_new ok _ m
    cases e
    rw [hz] at hb; cases hb
/-- all of them, looked at -/
theorem rsok_rd {Z Z' F H : Hp} {env : Ev} {σ : L2.St} (s : SR S Z' F env σ H) : ∀ {rs : List RR} {vs : List V} {ds : List D}, RsOk S Z Z' F σ rs vs → rdLs env rs = some ds → Paired (Rd S F H) ds vs
  | [], vs, ds, h, e => by cases (show vs = [] from h); cases (show some [] = some ds from e); exact .nil
  | r :: rs, _, ds, ⟨v, us, e1, h, h2⟩, e => by
    subst e1
    cases q1 : rdR env r with
    | none => rw [rdLs, q1] at e; cases e
    | some d =>
      cases q2 : rdLs env rs with
      | none => rw [rdLs, q1, q2] at e; cases e
      | some ds' =>
        rw [rdLs, q1, q2] at e; cases e
        refine .cons ?_ (rsok_rd s h q2)
        cases r with
        | val d' => cases q1; exact .inl h2
        | sl i =>
          cases w : env[i]? with
          | none => simp [rdR, w] at q1
          | some x =>
            cases x with
            | un => simp [rdR, w] at q1
            | val d' =>
              simp [rdR, w] at q1; subst q1
              obtain ⟨u, g1, g2⟩ := s.val i _ w
              rw [h2] at g1; cases g1
              exact .inl g2
            | own d' =>
              simp [rdR, w] at q1; subst q1
              obtain ⟨a, o, g1, g2, g3, _⟩ := s.own i _ w
              rw [h2] at g1; cases g1
              exact .inr ⟨a, o, rfl, g2, g3⟩
        | fr d' =>
          cases q1
          obtain ⟨a, o, h3, h4, h5, h6, h7⟩ := h2
          exact .inr ⟨a, o, h3, (s.prot a o h4).1, h6⟩
theorem rdKs_some {env : Ev} {rs : List RR} {k : List D → Prop} (h : rdKs env rs k) : ∃ ds, rdLs env rs = some ds ∧ k ds := by
  unfold rdKs at h
  cases q : rdLs env rs with
  | none => rw [q] at h; exact False.elim h
  | some ds => rw [q] at h; exact ⟨ds, rfl, h⟩
theorem RL.call {t : TA} {w : Ev → (List RR → Ev → Prop) → Prop} {r : RN} {op : List D → (RR → Prop) → Prop} (h : RL S t w) (ho : OpN S r op) : RS S (tCB r t) (fun env Q => w env fun rs e1 => rdKs e1 rs fun ds => op ds fun r => Q r e1) := by
  intro Z F env σ H Q Q' s hw k
  refine h Z F env σ H _ _ s hw fun Z1 F1 H1 vs rs e1 q1 le s1 i1 ok => ?_
  obtain ⟨ds, g, q1⟩ := rdKs_some q1
  exact ho Z1 F1 e1 σ H1 ds vs _ _ i1 (rsok_rd i1 ok g) q1 fun F2 H2 v r q e i rr => k F2 H2 v r e1 q (s1.trans e) (sr_weak le i) (rrel_weak le rr)
theorem rsok_vals {Z Z' F : Hp} {env : Ev} {σ : L2.St} : ∀ {rs : List RR} {vs : List V} {ds : List D}, RsOk S Z Z' F σ rs vs → allV rs = true → rdLs env rs = some ds → Reps S F ds vs
  | [], vs, ds, h, _, e => by cases (show vs = [] from h); cases (show some [] = some ds from e); rfl
  | r :: rs, _, ds, ⟨v, us, e1, h, h2⟩, a, e => by
    subst e1
    cases r with
    | val d =>
      cases q2 : rdLs env rs with
      | none => simp [rdLs, rdR, q2] at e
      | some ds' =>
        simp [rdLs, rdR, q2] at e
        subst e
        exact ⟨v, us, rfl, h2, rsok_vals h (by simpa [allV] using a) q2⟩
    | fr d => exact absurd (show false = true from by simpa [allV] using a) Bool.false_ne_true
    | sl i => exact absurd (show false = true from by simpa [allV] using a) Bool.false_ne_true
theorem RL.tup {t : TA} {w : Ev → (List RR → Ev → Prop) → Prop} (h : RL S t w) : RS S (tTup t) (fun env Q => w env fun rs e1 => rdKs e1 rs fun ds => ds.length ≤ LIM ∧ allV rs = true ∧ Q (.val (.tup ds)) e1) := by
  intro Z F env σ H Q Q' s hw k
  refine h Z F env σ H _ _ s hw fun Z1 F1 H1 vs rs e1 q1 le s1 i1 ok => ?_
  obtain ⟨ds, g, hz, ha, q1⟩ := rdKs_some q1
  have r := rsok_vals ok ha g
  refine ⟨by rw [r.length]; exact lim_le hz, fin_tup (Q := fun r => Q r e1) i1 q1 r fun F2 H2 v r q e i rr => k F2 H2 v r e1 q (s1.trans e) (sr_weak le i) (rrel_weak le rr)⟩
theorem RL.lst {t : TA} {w : Ev → (List RR → Ev → Prop) → Prop} (h : RL S t w) : RS S (tLst t) (fun env Q => w env fun rs e1 => rdKs e1 rs fun ds => ds.length ≤ LIM ∧ allV rs = true ∧ Q (.fr (.lst ds)) e1) := by
  intro Z F env σ H Q Q' s hw k
  refine h Z F env σ H _ _ s hw fun Z1 F1 H1 vs rs e1 q1 le s1 i1 ok => ?_
  obtain ⟨ds, g, hz, ha, q1⟩ := rdKs_some q1
  have r := rsok_vals ok ha g
  refine ⟨by rw [r.length]; exact lim_le hz, fin_new (Q := fun r => Q r e1) i1 q1 r fun F2 H2 v r q e i rr => k F2 H2 v r e1 q (s1.trans e) (sr_weak le i) (rrel_weak le rr)⟩
end
end PV

/-! PV: defs' promises by data; calls. -/
namespace PV
open PySem L2

/-- the arguments, as a def finds them -/
structure AR (S : Sg) (Z F H : Hp) (io : List Bool) (ds : List D) (vs : List V) : Prop where
  ld : ds.length = io.length
  lv : vs.length = io.length
  val : ∀ (j : Nat) (d : D) (v : V), io[j]? = some false → ds[j]? = some d → vs[j]? = some v → Rep S F d v
  own : ∀ (j : Nat) (d : D) (v : V), io[j]? = some true → ds[j]? = some d → vs[j]? = some v → ∃ (a : Addr) (o : HO), v = .ref a ∧ H a = some o ∧ Cell S F d o ∧ F a = none ∧ Z a = none
  sep : ∀ (j k : Nat) (a : Addr), io[j]? = some true → io[k]? = some true → vs[j]? = some (.ref a) → vs[k]? = some (.ref a) → j = k
def ioVs (io : List Bool) (vs : List V) (v : V) : Prop := ∃ j : Nat, io[j]? = some true ∧ vs[j]? = some v
/-- what the changed ones hold then -/
structure AO (S : Sg) (F H : Hp) (io : List Bool) (vs : List V) (outs : List D) : Prop where
  lo : outs.length = io.length
  out : ∀ (j : Nat) (d : D) (v : V), io[j]? = some true → outs[j]? = some d → vs[j]? = some v → ∃ (a : Addr) (o : HO), v = .ref a ∧ H a = some o ∧ Cell S F d o ∧ F a = none
def RV (S : Sg) (Z F H : Hp) (io : List Bool) (vs : List V) (fr : Bool) (d : D) (v : V) : Prop :=
  if fr = true then ∃ (a : Addr) (o : HO), v = .ref a ∧ H a = some o ∧ Cell S F d o ∧ F a = none ∧ Z a = none ∧ ¬ ioVs io vs (.ref a) else Rep S F d v
def spOf (S : Sg) (io : List Bool) (sp : Spec) : Sp := fun vs H Q _ => ∃ (Z F : Hp) (ds : List D), Same F H ∧ (∀ a o, Z a = some o → H a = some o ∧ F a = none) ∧ AR S Z F H io ds vs ∧
  sp.sp ds (fun fr d outs => outs.length = io.length ∧ ∀ F' H' v, Same F F' → Same F' H' → (∀ a o, Z a = some o → H' a = some o ∧ F' a = none) → AO S F' H' io vs outs → RV S Z F' H' io vs fr d v → Q v H')

section
variable {S : Sg}
/-! ### the slots handed on -/
theorem okO_len {env : Ev} : ∀ {io : List Bool} {rs : List RR} {us : List Nat}, okO env io rs us = true → rs.length = io.length
  | [], [], _, _ => rfl
  | true :: io, .sl i :: rs, us, h => by
    simp only [okO, Bool.and_eq_true] at h
    simp [okO_len h.2]
  | true :: io, .fr _ :: rs, us, h => by simp only [okO] at h; simp [okO_len h]
  | false :: io, .val _ :: rs, us, h => by simp only [okO] at h; simp [okO_len h]
  | false :: io, .sl i :: rs, us, h => by
    simp only [okO, Bool.and_eq_true] at h
    simp [okO_len h.2]
  | [], _ :: _, _, h => by simp [okO] at h
  | true :: _, [], _, h => by simp [okO] at h
  | false :: _, [], _, h => by simp [okO] at h
  | true :: _, .val _ :: _, _, h => by simp [okO] at h
  | false :: _, .fr _ :: _, _, h => by simp [okO] at h
/-- what okO says, by places -/
theorem okO_at {env : Ev} : ∀ {io : List Bool} {rs : List RR} {us : List Nat}, okO env io rs us = true →
    (∀ (j : Nat) (r : RR), io[j]? = some true → rs[j]? = some r → (∃ i d, r = .sl i ∧ env[i]? = some (.own d)) ∨ ∃ d, r = .fr d) ∧
    (∀ (j : Nat) (r : RR), io[j]? = some false → rs[j]? = some r → (∃ d, r = .val d) ∨ ∃ i, r = .sl i) ∧
    (∀ (j : Nat) (i : Nat), rs[j]? = some (.sl i) → i ∉ us) ∧
    (∀ (j k : Nat) (i : Nat), rs[j]? = some (.sl i) → rs[k]? = some (.sl i) → j = k)
  | [], [], _, _ => ⟨fun j r h => by simp at h, fun j r h => by simp at h, fun j i h => by simp at h, fun j k i h => by simp at h⟩
  | true :: io, .sl i :: rs, us, h => by
    simp only [okO, Bool.and_eq_true] at h
    obtain ⟨⟨h1, h2⟩, h3⟩ := h
    obtain ⟨a1, a2, a3, a4⟩ := okO_at h3
    have hu : i ∉ us := by simpa using h2
    have hown : ∃ d, env[i]? = some (.own d) := by
      cases q : env[i]? with
      | none => simp [q] at h1
      | some x => cases x with
        | own d => exact ⟨d, rfl⟩
        | un => simp [q] at h1
        | val d => simp [q] at h1
    refine ⟨fun j r g1 g2 => ?_, fun j r g1 g2 => ?_, fun j i' g => ?_, fun j k i' g1 g2 => ?_⟩
    · cases j with
      | zero => simp at g2; subst g2; obtain ⟨d, hd⟩ := hown; exact .inl ⟨i, d, rfl, hd⟩
      | succ j => exact a1 j r (by simpa using g1) (by simpa using g2)
    · cases j with
      | zero => simp at g1
      | succ j => exact a2 j r (by simpa using g1) (by simpa using g2)
    · cases j with
      | zero => simp at g; subst g; exact hu
      | succ j => exact fun m => a3 j i' (by simpa using g) (List.mem_cons_of_mem _ m)
    · cases j with
      | zero =>
        cases k with
        | zero => rfl
        | succ k => simp at g1; subst g1; exact absurd List.mem_cons_self (a3 k _ (by simpa using g2))
      | succ j =>
        cases k with
        | zero => simp at g2; subst g2; exact absurd List.mem_cons_self (a3 j _ (by simpa using g1))
        | succ k => rw [a4 j k i' (by simpa using g1) (by simpa using g2)]
  | true :: io, .fr d :: rs, us, h => by
    simp only [okO] at h
    obtain ⟨a1, a2, a3, a4⟩ := okO_at h
    refine ⟨fun j r g1 g2 => ?_, fun j r g1 g2 => ?_, fun j i' g => ?_, fun j k i' g1 g2 => ?_⟩
    · cases j with
      | zero => simp at g2; subst g2; exact .inr ⟨d, rfl⟩
      | succ j => exact a1 j r (by simpa using g1) (by simpa using g2)
    · cases j with
      | zero => simp at g1
      | succ j => exact a2 j r (by simpa using g1) (by simpa using g2)
    · cases j with
      | zero => simp at g
      | succ j => exact a3 j i' (by simpa using g)
    · cases j with
      | zero => simp at g1
      | succ j =>
        cases k with
        | zero => simp at g2
        | succ k => rw [a4 j k i' (by simpa using g1) (by simpa using g2)]
  | false :: io, .val d :: rs, us, h => by
    simp only [okO] at h
    obtain ⟨a1, a2, a3, a4⟩ := okO_at h
    refine ⟨fun j r g1 g2 => ?_, fun j r g1 g2 => ?_, fun j i' g => ?_, fun j k i' g1 g2 => ?_⟩
    · cases j with
      | zero => simp at g1
      | succ j => exact a1 j r (by simpa using g1) (by simpa using g2)
    · cases j with
      | zero => simp at g2; subst g2; exact .inl ⟨d, rfl⟩
      | succ j => exact a2 j r (by simpa using g1) (by simpa using g2)
    · cases j with
      | zero => simp at g
      | succ j => exact a3 j i' (by simpa using g)
    · cases j with
      | zero => simp at g1
      | succ j =>
        cases k with
        | zero => simp at g2
        | succ k => rw [a4 j k i' (by simpa using g1) (by simpa using g2)]
  | false :: io, .sl i :: rs, us, h => by
    simp only [okO, Bool.and_eq_true] at h
    obtain ⟨h2, h3⟩ := h
    obtain ⟨a1, a2, a3, a4⟩ := okO_at h3
    have hu : i ∉ us := by simpa using h2
    refine ⟨fun j r g1 g2 => ?_, fun j r g1 g2 => ?_, fun j i' g => ?_, fun j k i' g1 g2 => ?_⟩
    · cases j with
      | zero => simp at g1
      | succ j => exact a1 j r (by simpa using g1) (by simpa using g2)
    · cases j with
      | zero => simp at g2; subst g2; exact .inr ⟨i, rfl⟩
      | succ j => exact a2 j r (by simpa using g1) (by simpa using g2)
    · cases j with
      | zero => simp at g; subst g; exact hu
      | succ j => exact fun m => a3 j i' (by simpa using g) (List.mem_cons_of_mem _ m)
    · cases j with
      | zero =>
        cases k with
        | zero => rfl
        | succ k => simp at g1; subst g1; exact absurd List.mem_cons_self (a3 k _ (by simpa using g2))
      | succ j =>
        cases k with
        | zero => simp at g2; subst g2; exact absurd List.mem_cons_self (a3 j _ (by simpa using g1))
        | succ k => rw [a4 j k i' (by simpa using g1) (by simpa using g2)]
  | [], _ :: _, _, h => by simp [okO] at h
  | true :: _, [], _, h => by simp [okO] at h
  | false :: _, [], _, h => by simp [okO] at h
  | true :: _, .val _ :: _, _, h => by simp [okO] at h
  | false :: _, .fr _ :: _, _, h => by simp [okO] at h
theorem borO_at {env : Ev} : ∀ {io : List Bool} {rs : List RR}, borO env io rs = false → ∀ (j : Nat) (i : Nat) (d : D), io[j]? = some false → rs[j]? = some (.sl i) → env[i]? ≠ some (.own d)
  | [], _, _, j, i, d, g, _ => by simp at g
  | _ :: _, [], _, j, i, d, _, g => by simp at g
  | false :: io, .sl i0 :: rs, h, 0, i, d, _, g => by
    simp at g
    subst g
    simp only [borO, Bool.or_eq_false_iff] at h
    intro e
    rw [e] at h
    exact absurd h.1 (by simp)
  | false :: io, .sl i0 :: rs, h, j + 1, i, d, g1, g2 => by
    simp only [borO, Bool.or_eq_false_iff] at h
    exact borO_at h.2 j i d (by simpa using g1) (by simpa using g2)
  | true :: io, r :: rs, h, 0, i, d, g, _ => by simp at g
  | true :: io, r :: rs, h, j + 1, i, d, g1, g2 => by
    have h : borO env io rs = false := by cases r <;> simpa [borO] using h
    exact borO_at h j i d (by simpa using g1) (by simpa using g2)
  | false :: io, .val _ :: rs, h, 0, i, d, _, g => by simp at g
  | false :: io, .val _ :: rs, h, j + 1, i, d, g1, g2 => borO_at (by simpa [borO] using h) j i d (by simpa using g1) (by simpa using g2)
  | false :: io, .fr _ :: rs, h, 0, i, d, _, g => by simp at g
  | false :: io, .fr _ :: rs, h, j + 1, i, d, g1, g2 => borO_at (by simpa [borO] using h) j i d (by simpa using g1) (by simpa using g2)
theorem flatO_at : ∀ {io : List Bool} {os : List D}, flatO io os = true → ∀ (j : Nat) (o : D), io[j]? = some true → os[j]? = some o → flatC o = true
  | [], _, _, j, o, g, _ => by simp at g
  | _ :: _, [], _, j, o, _, g => by simp at g
  | true :: io, o0 :: os, h, 0, o, _, g => by simp at g; subst g; simp only [flatO, Bool.and_eq_true] at h; exact h.1
  | true :: io, o0 :: os, h, j + 1, o, g1, g2 => by simp only [flatO, Bool.and_eq_true] at h; exact flatO_at h.2 j o (by simpa using g1) (by simpa using g2)
  | false :: io, o0 :: os, h, 0, o, g, _ => by simp at g
  | false :: io, o0 :: os, h, j + 1, o, g1, g2 => by simp only [flatO] at h; exact flatO_at h j o (by simpa using g1) (by simpa using g2)
theorem putO_len : ∀ (io : List Bool) (rs : List RR) (os : List D) (env : Ev), (putO io rs os env).length = env.length
  | [], rs, os, env => by simp [putO]
  | b :: io, [], os, env => by cases b <;> simp [putO]
  | b :: io, r :: rs, [], env => by cases b <;> cases r <;> simp [putO]
  | true :: io, .sl i :: rs, o :: os, env => by simp only [putO]; rw [putO_len io rs os]; simp
  | true :: io, .val i :: rs, o :: os, env => by simp only [putO]; exact putO_len io rs os env
  | true :: io, .fr i :: rs, o :: os, env => by simp only [putO]; exact putO_len io rs os env
  | false :: io, .sl i :: rs, o :: os, env => by simp only [putO]; exact putO_len io rs os env
  | false :: io, .val i :: rs, o :: os, env => by simp only [putO]; exact putO_len io rs os env
  | false :: io, .fr i :: rs, o :: os, env => by simp only [putO]; exact putO_len io rs os env
/-- a slot behind putO: as it was, or one of the changed ones -/
theorem putO_get : ∀ (io : List Bool) (rs : List RR) (os : List D) (env : Ev) (i : Nat) (x : Sl), (putO io rs os env)[i]? = some x →
    env[i]? = some x ∧ (∀ j : Nat, io[j]? = some true → rs[j]? = some (.sl i) → j < os.length → x = .own (os.getD j .non)) ∨ ∃ (j : Nat) (o : D), io[j]? = some true ∧ rs[j]? = some (.sl i) ∧ os[j]? = some o ∧ x = .own o
  | [], rs, os, env, i, x, h => .inl ⟨by simpa [putO] using h, fun j g => by simp at g⟩
  | b :: io, [], os, env, i, x, h => .inl ⟨by cases b <;> simpa [putO] using h, fun j _ g => by simp at g⟩
  | b :: io, r :: rs, [], env, i, x, h => .inl ⟨by cases b <;> cases r <;> simpa [putO] using h, fun j _ _ g => by simp at g⟩
  | true :: io, .sl i0 :: rs, o :: os, env, i, x, h => by
    simp only [putO] at h
    rcases putO_get io rs os _ i x h with ⟨h1, h2⟩ | ⟨j, o', g1, g2, g3, g4⟩
    · by_cases e : i = i0
      · subst e
        have : x = .own o := by
          by_cases hl : i < env.length
          · simp [hl] at h1; exact h1.symm
          · rw [List.getElem?_eq_none (by simpa using hl)] at h1; cases h1
        exact .inr ⟨0, o, rfl, rfl, rfl, this⟩
      · rw [List.getElem?_set_ne (Ne.symm e)] at h1
        refine .inl ⟨h1, fun j g1 g2 g3 => ?_⟩
        cases j with
        | zero => simp at g2; exact absurd g2.symm e
        | succ j =>
          have := h2 j (by simpa using g1) (by simpa using g2) (by simpa using g3)
          simpa using this
    · exact .inr ⟨j + 1, o', by simpa using g1, by simpa using g2, by simpa using g3, g4⟩
  | true :: io, .val d :: rs, o :: os, env, i, x, h => by
    simp only [putO] at h
    rcases putO_get io rs os _ i x h with ⟨h1, h2⟩ | ⟨j, o', g1, g2, g3, g4⟩
    · refine .inl ⟨h1, fun j g1 g2 g3 => ?_⟩
      cases j with
      | zero => simp at g2
      | succ j => have := h2 j (by simpa using g1) (by simpa using g2) (by simpa using g3); simpa using this
    · exact .inr ⟨j + 1, o', by simpa using g1, by simpa using g2, by simpa using g3, g4⟩
  | true :: io, .fr d :: rs, o :: os, env, i, x, h => by
    simp only [putO] at h
    rcases putO_get io rs os _ i x h with ⟨h1, h2⟩ | ⟨j, o', g1, g2, g3, g4⟩
    · refine .inl ⟨h1, fun j g1 g2 g3 => ?_⟩
      cases j with
      | zero => simp at g2
      | succ j => have := h2 j (by simpa using g1) (by simpa using g2) (by simpa using g3); simpa using this
    · exact .inr ⟨j + 1, o', by simpa using g1, by simpa using g2, by simpa using g3, g4⟩
  | false :: io, r :: rs, o :: os, env, i, x, h => by
    have h : (putO io rs os env)[i]? = some x := by cases r <;> simpa [putO] using h
    rcases putO_get io rs os _ i x h with ⟨h1, h2⟩ | ⟨j, o', g1, g2, g3, g4⟩
    · refine .inl ⟨h1, fun j g1 g2 g3 => ?_⟩
      cases j with
      | zero => simp at g1
      | succ j => have := h2 j (by simpa using g1) (by simpa using g2) (by simpa using g3); simpa using this
    · exact .inr ⟨j + 1, o', by simpa using g1, by simpa using g2, by simpa using g3, g4⟩
theorem rsok_at {Z Z' F : Hp} {σ : L2.St} : ∀ {rs : List RR} {vs : List V}, RsOk S Z Z' F σ rs vs → vs.length = rs.length ∧ ∀ (j : Nat) (r : RR) (v : V), rs[j]? = some r → vs[j]? = some v → (match r with
    | .val d => Rep S F d v
    | .sl i => σ[i]? = some (some v)
    | .fr d => ∃ a o, v = .ref a ∧ Z' a = some o ∧ Z a = none ∧ Cell S F d o)
  | [], vs, h => by cases (show vs = [] from h); exact ⟨rfl, fun j r v g => by simp at g⟩
  | r :: rs, _, ⟨v, us, e, h, h2⟩ => by
    subst e
    obtain ⟨l, a⟩ := rsok_at h
    refine ⟨by simp [l], fun j r' v' g1 g2 => ?_⟩
    cases j with
    | zero =>
      simp at g1 g2
      subst g1 g2
      cases r with
      | val d => exact h2
      | sl i => exact h2
      | fr d => obtain ⟨a, o, h3, h4, h5, h6, _⟩ := h2; exact ⟨a, o, h3, h4, h5, h6⟩
    | succ j => exact a j r' v' (by simpa using g1) (by simpa using g2)
theorem mem_frVs : ∀ {rs : List RR} {vs : List V} {j : Nat} {d : D} {v : V}, rs[j]? = some (.fr d) → vs[j]? = some v → v ∈ frVs rs vs
  | [], _, j, _, _, g, _ => by simp at g
  | _ :: _, [], j, _, _, _, g => by simp at g
  | r :: rs, u :: us, 0, d, v, g1, g2 => by simp at g1 g2; subst g1 g2; exact List.mem_cons_self
  | r :: rs, u :: us, j + 1, d, v, g1, g2 => by
    have := mem_frVs (rs := rs) (vs := us) (j := j) (d := d) (v := v) (by simpa using g1) (by simpa using g2)
    cases r with
    | fr _ => exact List.mem_cons_of_mem _ this
    | val _ => exact this
    | sl _ => exact this
theorem rsok_fr {Z Z' F : Hp} {σ : L2.St} : ∀ {rs : List RR} {vs : List V}, RsOk S Z Z' F σ rs vs → ∀ (j k : Nat) (d e : D) (v : V), rs[j]? = some (.fr d) → rs[k]? = some (.fr e) → vs[j]? = some v → vs[k]? = some v → j = k
  | [], vs, h, j, k, d, e, v, g, _, _, _ => by simp at g
  | r :: rs, _, ⟨w, us, e1, h, h2⟩, j, k, d, e, v, g1, g2, g3, g4 => by
    subst e1
    cases j with
    | zero =>
      cases k with
      | zero => rfl
      | succ k =>
        simp at g1 g3
        subst g1 g3
        obtain ⟨a, o, h3, h4, h5, h6, h7⟩ := h2
        subst h3
        exact absurd (mem_frVs (by simpa using g2) (by simpa using g4)) h7
    | succ j =>
      cases k with
      | zero =>
        simp at g2 g4
        subst g2 g4
        obtain ⟨a, o, h3, h4, h5, h6, h7⟩ := h2
        subst h3
        exact absurd (mem_frVs (by simpa using g1) (by simpa using g3)) h7
      | succ k => rw [rsok_fr h j k d e v (by simpa using g1) (by simpa using g2) (by simpa using g3) (by simpa using g4)]
theorem rdLs_at {env : Ev} : ∀ {rs : List RR} {ds : List D}, rdLs env rs = some ds → ds.length = rs.length ∧ ∀ (j : Nat) (r : RR) (d : D), rs[j]? = some r → ds[j]? = some d → rdR env r = some d
  | [], ds, h => by cases (show some [] = some ds from h); exact ⟨rfl, fun j r d g => by simp at g⟩
  | r :: rs, ds, h => by
    cases q1 : rdR env r with
    | none => rw [rdLs, q1] at h; cases h
    | some d =>
      cases q2 : rdLs env rs with
      | none => rw [rdLs, q1, q2] at h; cases h
      | some ds' =>
        rw [rdLs, q1, q2] at h; cases h
        obtain ⟨l, a⟩ := rdLs_at q2
        refine ⟨by simp [l], fun j r' d' g1 g2 => ?_⟩
        cases j with
        | zero => simp at g1 g2; subst g1 g2; exact q1
        | succ j => exact a j r' d' (by simpa using g1) (by simpa using g2)
theorem flat_rep {F F' : Hp} {d : D} {v : V} (fl : flatD d = true) (h : Rep S F d v) : Rep S F' d v := by
  cases d <;> first
    | exact absurd (show false = true from fl) Bool.false_ne_true
    | exact h
theorem flat_reps {F F' : Hp} : ∀ {ds : List D} {vs : List V}, ds.all flatD = true → Reps S F ds vs → Reps S F' ds vs
  | [], vs, _, h => h
  | d :: ds, _, fl, ⟨v, us, e, h1, h2⟩ => by
    simp only [List.all_cons, Bool.and_eq_true] at fl
    exact ⟨v, us, e, flat_rep fl.1 h1, flat_reps fl.2 h2⟩
theorem flat_cell {F F' : Hp} {d : D} {o : HO} (fl : flatC d = true) (h : Cell S F d o) : Cell S F' d o := by
  cases d with
  | lst ds => obtain ⟨vs, e, h⟩ := h; exact ⟨vs, e, flat_reps fl h⟩
  | obj c ds => obtain ⟨dx, fs, e, h1, h2⟩ := h; exact ⟨dx, fs, e, h1, flat_reps fl h2⟩
  | dct ks ds => exact absurd (show false = true from fl) Bool.false_ne_true
  | _ => exact False.elim h

/-- THE CALL -/
theorem call_ok {Z Z1 F H : Hp} {env : Ev} {σ : L2.St} {rs : List RR} {vs : List V} {ds : List D} {io : List Bool} {sp : Spec} {Q : RR → Ev → Prop} {Q' : VK} {E : XK} (s : SR S Z1 F env σ H) (le : ∀ a o, Z a = some o → Z1 a = some o)
    (ok : RsOk S Z Z1 F σ rs vs) (ho : okO env io rs [] = true) (g : rdLs env rs = some ds)
    (w : sp.sp ds fun fr d outs => outs.length = io.length ∧ (borO env io rs = true → fr = false ∧ flatD d = true ∧ flatO io outs = true) ∧ Q (if fr then .fr d else .val d) (putO io rs outs env))
    (k : ∀ F' H' v r env', Q r env' → Same F F' → SR S Z F' env' σ H' → RRel S Z F' H' σ env' r v → Q' v H') : spOf S io sp vs H Q' E := by
  classical
  obtain ⟨a1, a2, _, a4⟩ := okO_at ho
  have lrs := okO_len ho
  obtain ⟨lvs, av⟩ := rsok_at ok
  obtain ⟨lds, ad⟩ := rdLs_at g
  have sZ : SR S Z F env σ H := sr_weak le s
  -- the objects lent
  let bor : Addr → Prop := fun b => ∃ (j i : Nat) (d : D), io[j]? = some false ∧ rs[j]? = some (.sl i) ∧ env[i]? = some (.own d) ∧ vs[j]? = some (V.ref b)
  let Fb : Hp := fun b => if bor b then H b else F b
  -- the changed ones
  have ioAt : ∀ (j : Nat) (v : V), io[j]? = some true → vs[j]? = some v → ∃ (a : Addr) (o : HO) (d : D), v = .ref a ∧ H a = some o ∧ Cell S F d o ∧ F a = none ∧ Z a = none ∧ ds[j]? = some d ∧
      ((∃ i, rs[j]? = some (.sl i) ∧ σ[i]? = some (some (.ref a)) ∧ env[i]? = some (.own d) ∧ Z1 a = none) ∨ (rs[j]? = some (.fr d) ∧ Z1 a = some o)) := by
    intro j v h1 h2
    have hj : j < rs.length := by rw [← lvs]; exact (List.getElem?_eq_some_iff.mp h2).1
    obtain ⟨r, hr⟩ : ∃ r, rs[j]? = some r := ⟨_, List.getElem?_eq_getElem hj⟩
    obtain ⟨d, hd⟩ : ∃ d, ds[j]? = some d := ⟨_, List.getElem?_eq_getElem (by rw [lds]; exact hj)⟩
    have hrd := ad j r d hr hd
    have hv := av j r v hr h2
    rcases a1 j r h1 hr with ⟨i, d', rfl, he⟩ | ⟨d', rfl⟩
    · obtain ⟨a, o, g1, g2, g3, g4, g5⟩ := s.own i d' he
      have hv : σ[i]? = some (some v) := hv
      rw [g1] at hv; cases hv
      have : d = d' := by simp [rdR, he] at hrd; exact hrd.symm
      subst this
      refine ⟨a, o, d, rfl, g2, g3, g4, ?_, hd, .inl ⟨i, hr, g1, he, g5⟩⟩
      cases q : Z a with
      | none => rfl
      | some u => rw [le a u q] at g5; cases g5
    · obtain ⟨a, o, g1, g2, g3, g4⟩ := hv
      cases (show some d' = some d from hrd)
      exact ⟨a, o, d, g1, (s.prot a o g2).1, g4, (s.prot a o g2).2, g3, hd, .inr ⟨hr, g2⟩⟩
  have borAt : ∀ b, bor b → ∃ o, H b = some o ∧ F b = none ∧ Z1 b = none ∧ ¬ ioVs io vs (.ref b) := by
    rintro b ⟨j, i, d, h1, h2, h3, h4⟩
    have hv : σ[i]? = some (some (V.ref b)) := av j _ _ h2 h4
    obtain ⟨a, o, g1, g2, g3, g4, g5⟩ := s.own i d h3
    rw [g1] at hv; cases hv
    refine ⟨o, g2, g4, g5, ?_⟩
    rintro ⟨j', q1, q2⟩
    obtain ⟨a', o', d', e, _, _, _, _, _, q3⟩ := ioAt j' _ q1 q2
    cases e
    rcases q3 with ⟨i', q4, q5, q6, _⟩ | ⟨q4, q5⟩
    · have : i' = i := s.sep i' i d' d b q6 h3 q5 g1
      subst this
      have : j' = j := a4 j' j i' q4 h2
      subst this
      rw [h1] at q1; cases q1
    · rw [g5] at q5; cases q5
  have sFb : Same F Fb := fun a o e => by
    show (if bor a then H a else F a) = some o
    by_cases q : bor a
    · obtain ⟨u, _, z, _⟩ := borAt a q
      rw [z] at e; cases e
    · rw [if_neg q]; exact e
  have sFbH : Same Fb H := fun a o e => by
    have e : (if bor a then H a else F a) = some o := e
    by_cases q : bor a
    · rw [if_pos q] at e; exact e
    · rw [if_neg q] at e; exact s.same a o e
  have fbN : ∀ a, F a = none → ¬ bor a → Fb a = none := fun a e q => by
    show (if bor a then H a else F a) = none
    rw [if_neg q]; exact e
  have noBor : ∀ (j : Nat) (a : Addr), io[j]? = some true → vs[j]? = some (.ref a) → ¬ bor a := fun j a q1 q2 q => by
    obtain ⟨_, _, _, _, z⟩ := borAt a q
    exact z ⟨j, q1, q2⟩
  let Zc : Hp := fun b => if Fb b = none ∧ ¬ ioVs io vs (.ref b) then H b else none
  have zc : ∀ a o, Zc a = some o → H a = some o ∧ Fb a = none := fun a o e => by
    have e : (if Fb a = none ∧ ¬ ioVs io vs (.ref a) then H a else none) = some o := e
    by_cases q : Fb a = none ∧ ¬ ioVs io vs (.ref a)
    · rw [if_pos q] at e; exact ⟨e, q.1⟩
    · rw [if_neg q] at e; cases e
  have zcOf : ∀ a o, H a = some o → Fb a = none → ¬ ioVs io vs (.ref a) → Zc a = some o := fun a o h1 h2 h3 => by
    show (if Fb a = none ∧ ¬ ioVs io vs (.ref a) then H a else none) = some o
    rw [if_pos ⟨h2, h3⟩]; exact h1
  refine ⟨Zc, Fb, ds, sFbH, zc, ⟨lds.trans lrs, lvs.trans lrs, fun j d v h1 h2 h3 => ?_, fun j d v h1 h2 h3 => ?_, fun j k' a h1 h2 h3 h4 => ?_⟩, Spec.mono w ?_⟩
  · -- a value, or one lent
    have hj : j < rs.length := by rw [← lvs]; exact (List.getElem?_eq_some_iff.mp h3).1
    obtain ⟨r, hr⟩ : ∃ r, rs[j]? = some r := ⟨_, List.getElem?_eq_getElem hj⟩
    have hv := av j r v hr h3
    have hrd := ad j r d hr h2
    rcases a2 j r h1 hr with ⟨d', rfl⟩ | ⟨i, rfl⟩
    · cases (show some d' = some d from hrd)
      exact Rep.mono sFb _ _ hv
    · have hv : σ[i]? = some (some v) := hv
      cases w : env[i]? with
      | none => simp [rdR, w] at hrd
      | some x =>
        cases x with
        | un => simp [rdR, w] at hrd
        | val d' =>
          simp [rdR, w] at hrd; subst hrd
          obtain ⟨u, g1, g2⟩ := s.val i _ w
          rw [hv] at g1; cases g1
          exact Rep.mono sFb _ _ g2
        | own d' =>
          simp [rdR, w] at hrd; subst hrd
          obtain ⟨a, o, g1, g2, g3, g4, g5⟩ := s.own i _ w
          rw [hv] at g1; cases g1
          have hb : bor a := ⟨j, i, d', h1, hr, w, h3⟩
          have e : Fb a = some o := by
            show (if bor a then H a else F a) = some o
            rw [if_pos hb]; exact g2
          have g3' := g3.mono sFb
          cases d' with
          | lst ds' => obtain ⟨us, e1, e2⟩ := g3'; subst e1; exact ⟨a, us, rfl, e, e2⟩
          | obj c ds' => obtain ⟨dx, fs, e1, e2, e3⟩ := g3'; subst e1; exact ⟨a, dx, fs, rfl, e, e2, e3⟩
          | dct ks ds' => obtain ⟨kvs, e1, e2, e3⟩ := g3'; subst e1; exact ⟨a, kvs, rfl, e, e2, e3⟩
          | _ => exact False.elim g3
  · obtain ⟨a, o, d', e, g1, g2, g3, g4, g5, _⟩ := ioAt j v h1 h3
    rw [g5] at h2; cases h2
    subst e
    refine ⟨a, o, rfl, g1, g2.mono sFb, fbN a g3 (noBor j a h1 h3), ?_⟩
    show (if Fb a = none ∧ ¬ ioVs io vs (.ref a) then H a else none) = none
    rw [if_neg fun q => q.2 ⟨j, h1, h3⟩]
  · obtain ⟨_, _, d1, e1, _, _, _, _, _, q1⟩ := ioAt j _ h1 h3
    obtain ⟨_, _, d2, e2, _, _, _, _, _, q2⟩ := ioAt k' _ h2 h4
    cases e1; cases e2
    rcases q1 with ⟨i, p1, p2, p3, p4⟩ | ⟨p1, p2⟩
    · rcases q2 with ⟨i', r1, r2, r3, _⟩ | ⟨r1, r2⟩
      · have : i = i' := s.sep i i' d1 d2 a p3 r3 p2 r2
        subst this
        exact a4 j k' i p1 r1
      · rw [p4] at r2; cases r2
    · rcases q2 with ⟨i', r1, r2, r3, r4⟩ | ⟨r1, r2⟩
      · rw [r4] at p2; cases p2
      · exact rsok_fr ok j k' d1 d2 (.ref a) p1 r1 h3 h4
  · rintro fr d outs ⟨lo, hb, hq⟩
    refine ⟨lo, fun F2 H2 v e1 e2 pz ao rv => ?_⟩
    -- the new known part: F2, or (something was lent) F as it was
    obtain ⟨Fn, hFn, hle, cellIO, fnN, relV⟩ : ∃ Fn : Hp, Same F Fn ∧ Same Fn F2 ∧ (∀ (j : Nat) (o : D) (u : HO), io[j]? = some true → outs[j]? = some o → Cell S F2 o u → Cell S Fn o u) ∧ (∀ a, bor a → Fn a = none) ∧
        (fr = false → Rep S F2 d v → Rep S Fn d v) ∧ (fr = true → Fn = F2) := by
      by_cases hbo : borO env io rs = true
      · obtain ⟨rfl, fd, fo⟩ := hb hbo
        exact ⟨F, Same.refl F, sFb.trans e1, fun j o u q1 q2 q3 => flat_cell (flatO_at fo j o q1 q2) q3, fun a q => by obtain ⟨_, _, z, _⟩ := borAt a q; exact z, fun _ r => flat_rep fd r, fun q => by cases q⟩
      · have hbo : borO env io rs = false := by simpa using hbo
        refine ⟨F2, sFb.trans e1, Same.refl F2, fun _ _ _ _ _ q => q, fun a q => ?_, fun _ r => r, fun _ => rfl⟩
        obtain ⟨j, i, d', h1, h2, h3, h4⟩ := q
        exact absurd h3 (borO_at hbo j i d' h1 h2)
    obtain ⟨relV, relF⟩ := relV
    have keepH : ∀ a o, H a = some o → F a = none → ¬ ioVs io vs (.ref a) → H2 a = some o ∧ Fn a = none := fun a o h1 h2 h3 => by
      by_cases q : bor a
      · refine ⟨e2 a o (e1 a o ?_), fnN a q⟩
        show (if bor a then H a else F a) = some o
        rw [if_pos q]; exact h1
      · obtain ⟨z1, z2⟩ := pz a o (zcOf a o h1 (fbN a h2 q) h3)
        exact ⟨z1, hle.free z2⟩
    have notIo : ∀ (i : Nat) (dd : D) (a : Addr), env[i]? = some (.own dd) → σ[i]? = some (some (V.ref a)) → ioVs io vs (V.ref a) → ∃ j : Nat, io[j]? = some true ∧ rs[j]? = some (RR.sl i) ∧ vs[j]? = some (V.ref a) := fun i dd a q1 q2 ⟨j, q3, q4⟩ => by
      obtain ⟨_, o', d', e, _, _, _, _, _, q5⟩ := ioAt j _ q3 q4
      cases e
      rcases q5 with ⟨i', p1, p2, p3, _⟩ | ⟨p1, p2⟩
      · have : i' = i := s.sep i' i d' dd a p3 q1 p2 q2
        subst this
        exact ⟨j, q3, p1, q4⟩
      · obtain ⟨a', u, g1, _, _, _, g5⟩ := s.own i dd q1
        rw [q2] at g1; cases g1
        rw [g5] at p2; cases p2
    have s2 : SR S Z Fn (putO io rs outs env) σ H2 := by
      refine ⟨hle.trans e2, fun a o q => ?_, by rw [putO_len]; exact s.len, fun i dd q => ?_, fun i dd q => ?_, fun i i' dd ee a q1 q2 q3 q4 => ?_⟩
      · obtain ⟨h1, h2⟩ := sZ.prot a o q
        refine keepH a o h1 h2 ?_
        rintro ⟨j, q3, q4⟩
        obtain ⟨_, _, _, e, _, _, _, z, _⟩ := ioAt j _ q3 q4
        cases e
        rw [z] at q; cases q
      · rcases putO_get io rs outs env i _ q with ⟨h1, _⟩ | ⟨j, o, _, _, _, e⟩
        · obtain ⟨u, h2, h3⟩ := s.val i dd h1
          exact ⟨u, h2, Rep.mono hFn _ _ h3⟩
        · cases e
      · rcases putO_get io rs outs env i _ q with ⟨h1, h1'⟩ | ⟨j, o, g1, g2, g3, e⟩
        · obtain ⟨a, o, h2, h3, h4, h5, h6⟩ := sZ.own i dd h1
          by_cases qi : ioVs io vs (.ref a)
          · -- then it was changed
            obtain ⟨j, q3, q4, q5⟩ := notIo i dd a h1 h2 qi
            have hjo : j < outs.length := by rw [lo]; exact (List.getElem?_eq_some_iff.mp q3).1
            have e := h1' j q3 q4 hjo
            obtain ⟨o', ho'⟩ : ∃ o', outs[j]? = some o' := ⟨_, List.getElem?_eq_getElem hjo⟩
            have : dd = o' := by
              have e : (Sl.own dd) = .own (outs.getD j .non) := e
              rw [List.getD_eq_getElem?_getD, ho'] at e
              exact Sl.own.inj e
            subst this
            obtain ⟨a', u, r1, r2, r3, r4⟩ := ao.out j dd _ q3 ho' q5
            cases r1
            exact ⟨a, u, h2, r2, cellIO j dd u q3 ho' r3, hle.free r4, h6⟩
          · obtain ⟨k1, k2⟩ := keepH a o h3 h5 qi
            exact ⟨a, o, h2, k1, h4.mono hFn, k2, h6⟩
        · cases e
          have hv : ∃ v', vs[j]? = some v' := ⟨_, List.getElem?_eq_getElem (by rw [lvs]; exact (List.getElem?_eq_some_iff.mp g2).1)⟩
          obtain ⟨v', hv⟩ := hv
          obtain ⟨a, o', d', e', _, _, _, z, _, q5⟩ := ioAt j v' g1 hv
          subst e'
          obtain ⟨a', u, r1, r2, r3, r4⟩ := ao.out j dd _ g1 g3 hv
          cases r1
          have hs : σ[i]? = some (some (V.ref a)) := av j _ _ g2 hv
          exact ⟨a, u, hs, r2, cellIO j dd u g1 g3 r3, hle.free r4, z⟩
      · have ownOf : ∀ (i : Nat) (dd : D), (putO io rs outs env)[i]? = some (.own dd) → ∃ d' : D, env[i]? = some (.own d') := fun i dd q => by
          rcases putO_get io rs outs env i _ q with ⟨h1, _⟩ | ⟨j, o, g1, g2, g3, e⟩
          · exact ⟨dd, h1⟩
          · rcases a1 j _ g1 g2 with ⟨i', d', e', h⟩ | ⟨d', e'⟩
            · cases e'; exact ⟨d', h⟩
            · cases e'
        obtain ⟨d1, w1⟩ := ownOf i dd q1
        obtain ⟨d2, w2⟩ := ownOf i' ee q2
        exact s.sep i i' d1 d2 a w1 w2 q3 q4
    refine k Fn H2 v _ _ hq hFn s2 ?_
    cases fr with
    | false => exact relV rfl (by unfold RV at rv; rw [if_neg Bool.false_ne_true] at rv; exact rv)
    | true =>
      have rv : ∃ (a : Addr) (o : HO), v = .ref a ∧ H2 a = some o ∧ Cell S F2 d o ∧ F2 a = none ∧ Zc a = none ∧ ¬ ioVs io vs (.ref a) := by unfold RV at rv; rw [if_pos rfl] at rv; exact rv
      obtain ⟨a, o, r1, r2, r3, r4, r5, r6⟩ := rv
      have hn : H a = none := by
        have z : Fb a = none := e1.free r4
        have r5 : (if Fb a = none ∧ ¬ ioVs io vs (.ref a) then H a else none) = none := r5
        rw [if_pos ⟨z, r6⟩] at r5
        exact r5
      rw [relF rfl]
      refine ⟨a, o, r1, r2, r3, r4, ?_, fun i e q z => ?_⟩
      · cases q : Z a with
        | none => rfl
        | some u => rw [(sZ.prot a u q).1] at hn; cases hn
      · rcases putO_get io rs outs env i _ q with ⟨h1, _⟩ | ⟨j, o', g1, g2, g3, _⟩
        · obtain ⟨a', u, p1, p2, _⟩ := s.own i e h1
          rw [z] at p1; cases p1
          rw [hn] at p2; cases p2
        · rcases a1 j _ g1 g2 with ⟨i', d', e', h⟩ | ⟨d', e'⟩
          · cases e'
            obtain ⟨a', u, p1, p2, _⟩ := s.own i d' h
            rw [z] at p1; cases p1
            rw [hn] at p2; cases p2
          · cases e'
end
end PV

/-! PV: slices, what is walked, comprehensions. -/
namespace PV
open PySem L2

section
variable {S : Sg}
/-! ### slices -/
def RO (S : Sg) (t : TO) (w : Ev → (Option Int → Ev → Prop) → Prop) : Prop :=
  ∀ (Z F : Hp) (env : Ev) (σ : L2.St) (H : Hp) (Q : Option Int → Ev → Prop) (Q' : Option Int → Hp → Prop), SR S Z F env σ H → w env Q →
    (∀ F' H' o env', Q o env' → Same F F' → SR S Z F' env' σ H' → Q' o H') → t σ H Q'
theorem RO.none_ : RO S tNoPart (fun env Q => Q none env) := fun Z F env σ H Q Q' s hw k => k F H none env hw (Same.refl F) s
theorem RO.some_ {t : TE} {w : WR} (h : RS S t w) : RO S (tPart t) (fun env Q => w env fun r e1 => rdK e1 r fun d => match d with
      | .int i => Q (some i) e1
      | _ => False) := by
  intro Z F env σ H Q Q' s hw k
  refine h Z F env σ H _ _ s hw fun F1 H1 x r1 e1 q1 s1 i1 rr1 => ?_
  obtain ⟨d1, g1, q1⟩ := rdK_some q1
  cases d1 with
  | int i => exact ⟨i, (now_rr i1 rr1 g1).int, k F1 H1 _ e1 q1 s1 i1⟩
  | _ => exact False.elim q1
theorem RS.slc {t : TE} {w : WR} {tl th : TO} {wl wh : Ev → (Option Int → Ev → Prop) → Prop} (h : RS S t w) (hl : RO S tl wl) (hh : RO S th wh) :
    RS S (tSl (rSlA S.K) t tl th) (fun env Q => w env fun r1 e1 => wl e1 fun l e2 => wh e2 fun u e3 => rdK e3 r1 fun d1 => slcD d1 l u fun r => Q r e3) := by
  intro Z F env σ H Q Q' s hw k
  refine h Z F env σ H _ _ s hw fun F1 H1 x r1 e1 q1 s1 i1 rr1 => ?_
  refine hl _ F1 e1 σ H1 _ _ (zx_sr i1 rr1) q1 fun F2 H2 l e2 q2 s2 i2 => ?_
  refine hh _ F2 e2 σ H2 _ _ i2 q2 fun F3 H3 u e3 q3 s3 i3 => ?_
  obtain ⟨d1, g1, q3⟩ := rdK_some q3
  exact s_slc i3 (keep_rr rr1 (s2.trans s3) i3 g1) q3 fun F4 H4 v r q e i rr => k F4 H4 v r e3 q (((s1.trans s2).trans s3).trans e) (sr_weak (zx_le rr1) i) (rrel_weak (zx_le rr1) rr)

/-! ### what is walked -/
/-- J yields the items, as long as what is walked stands -/
def Wlk (S : Sg) (Z F : Hp) (src : List (RR × D)) (items : List D) (σ : L2.St) (J : It) : Prop :=
  ∀ (Z2 : Hp) (i : Nat) (F2 : Hp) (env2 : Ev) (σ2 : L2.St) (H2 : Hp), (∀ a o, Z a = some o → Z2 a = some o) → Same F F2 → SR S Z2 F2 env2 σ2 H2 → (∀ p ∈ src, ∀ k, p.1 = .sl k → σ2[k]? = σ[k]?) → chk src env2 →
    (items.length ≤ i → J.stop i H2) ∧ ∀ d, items[i]? = some d → J.go i H2 ∧ ∀ x H3, J.yld i H2 x H3 → ∃ F3, Same F2 F3 ∧ SR S Z2 F3 env2 σ2 H3 ∧ Rep S F3 d x
def RI (S : Sg) (t : TI) (w : Ev → (List (RR × D) → List D → Ev → Prop) → Prop) : Prop :=
  ∀ (Z F : Hp) (env : Ev) (σ : L2.St) (H : Hp) (Q : List (RR × D) → List D → Ev → Prop) (R : It → Hp → Prop), SR S Z F env σ H → w env Q →
    (∀ Z' F' H' src items env' J, Q src items env' → (∀ a o, Z a = some o → Z' a = some o) → Same F F' → SR S Z' F' env' σ H' → Wlk S Z' F' src items σ J → R J H') → t σ H R
/-- a result that is walked, later on -/
theorem later_rr {Z F F2 H H2 : Hp} {env env2 : Ev} {σ σ2 : L2.St} {r : RR} {v : V} {d : D} (q : RRel S Z F H σ env r v) (e : Same F F2) (s : SR S (Zx Z H r v) F2 env2 σ2 H2) (hσ : ∀ k, r = .sl k → σ2[k]? = σ[k]?) (h : rdR env2 r = some d) : Rd S F2 H2 d v := by
  cases r with
  | val d' =>
    cases (show some d' = some d from h)
    exact .inl (Rep.mono e _ _ q)
  | fr d' =>
    cases (show some d' = some d from h)
    obtain ⟨b, u, rfl, hb, hc, hf, hz, hn⟩ := q
    have h2 : H2 b = some u := (s.prot b u (by show (if b = b then H b else Z b) = some u; rw [if_pos rfl]; exact hb)).1
    exact .inr ⟨b, u, rfl, h2, hc.mono e⟩
  | sl i =>
    obtain ⟨_, q⟩ := q
    have q2 : σ2[i]? = some (some v) := (hσ i rfl).trans q
    cases h1 : env2[i]? with
    | none => simp [rdR, h1] at h
    | some x =>
      cases x with
      | un => simp [rdR, h1] at h
      | val d' =>
        simp [rdR, h1] at h; subst h
        obtain ⟨w, e1, r1⟩ := s.val i _ h1
        rw [q2] at e1; cases e1
        exact .inl r1
      | own d' =>
        simp [rdR, h1] at h; subst h
        obtain ⟨a, o, e1, e2, e3, _, _⟩ := s.own i _ h1
        rw [q2] at e1; cases e1
        exact .inr ⟨a, o, rfl, e2, e3⟩
/-- a list, known or not, at a -/
def IsSq (d : D) (xs : List D) : Prop := d = .lst xs ∨ d = .rol xs
theorem IsSq.rd {Z F H : Hp} {env : Ev} {σ : L2.St} {d : D} {xs : List D} {v : V} (s : SR S Z F env σ H) (h : IsSq d xs) (r : Rd S F H d v) : ∃ a ys, v = .ref a ∧ SqL S.K H a ys ∧ Reps S F xs ys := by
  rcases h with rfl | rfl
  · obtain ⟨a, ys, e, h1, h2⟩ := r.lst s.same
    exact ⟨a, ys, e, SqL.of h1, h2⟩
  · exact r.rol s.same
theorem wlk_list {Z F H : Hp} {env : Ev} {σ : L2.St} {r : RR} {v : V} {d : D} {xs : List D} {a : Addr} (q : RRel S Z F H σ env r v) (s : SR S Z F env σ H) (hd : IsSq d xs) (ev : v = .ref a) : Wlk S (Zx Z H r v) F [(r, d)] xs σ (Itl S.K a) := by
  intro Z2 i F2 env2 σ2 H2 le e s2 hσ c
  have rd := later_rr q e (sr_weak le s2) (fun k hk => hσ (r, d) (by simp) k hk) (c (r, d) (by simp))
  obtain ⟨a', ys, e1, h1, h2⟩ := hd.rd s2 rd
  subst ev
  cases e1
  refine ⟨fun hi => ⟨ys, h1, by rw [h2.length]; exact hi⟩, fun y hy => ?_⟩
  obtain ⟨w, h3, h4⟩ := h2.get hy
  refine ⟨⟨ys, w, h1, h3⟩, fun x H3 hx => ?_⟩
  obtain ⟨rfl, hx⟩ := hx
  have h5 := hx ys h1
  rw [h3] at h5; cases h5
  exact ⟨F2, Same.refl F2, s2, h4⟩
theorem wlk_tup {Z F H : Hp} {env : Ev} {σ : L2.St} {r : RR} {v : V} {xs : List D} {a : Addr} (q : RRel S Z F H σ env r v) (s : SR S Z F env σ H) (ev : v = .ref a) : Wlk S (Zx Z H r v) F [(r, .tup xs)] xs σ (Itt S.K a) := by
  intro Z2 i F2 env2 σ2 H2 le e s2 hσ c
  have rd := later_rr q e (sr_weak le s2) (fun k hk => hσ (r, .tup xs) (by simp) k hk) (c (r, .tup xs) (by simp))
  obtain ⟨a', ys, e1, h1, h2⟩ := rd.tup s2.same
  subst ev
  cases e1
  refine ⟨fun hi => ⟨ys, h1, by rw [h2.length]; exact hi⟩, fun y hy => ?_⟩
  obtain ⟨w, h3, h4⟩ := h2.get hy
  refine ⟨⟨ys, w, h1, h3⟩, fun x H3 hx => ?_⟩
  obtain ⟨rfl, hx⟩ := hx
  have h5 := hx ys h1
  rw [h3] at h5; cases h5
  exact ⟨F2, Same.refl F2, s2, h4⟩
theorem wlk_tpn {Z F H : Hp} {env : Ev} {σ : L2.St} {r : RR} {v : V} {xs : List D} {a : Addr} (q : RRel S Z F H σ env r v) (s : SR S Z F env σ H) (ev : v = .ref a) : Wlk S (Zx Z H r v) F [(r, .tpn xs)] xs σ (Itt S.K a) := by
  intro Z2 i F2 env2 σ2 H2 le e s2 hσ c
  have rd := later_rr q e (sr_weak le s2) (fun k hk => hσ (r, .tpn xs) (by simp) k hk) (c (r, .tpn xs) (by simp))
  obtain ⟨a', ys, e1, _, h1, h2⟩ := rd.tpn s2.same
  subst ev
  cases e1
  refine ⟨fun hi => ⟨ys, h1, by rw [h2.length]; exact hi⟩, fun y hy => ?_⟩
  obtain ⟨w, h3, h4⟩ := h2.get hy
  refine ⟨⟨ys, w, h1, h3⟩, fun x H3 hx => ?_⟩
  obtain ⟨rfl, hx⟩ := hx
  have h5 := hx ys h1
  rw [h3] at h5; cases h5
  exact ⟨F2, Same.refl F2, s2, h4⟩
theorem wlk_rng {Z F : Hp} {σ : L2.St} {lo : Int} {n : Nat} : Wlk S Z F [] (rngD lo n) σ (Itr lo n) := by
  intro Z2 i F2 env2 σ2 H2 le e s2 hσ c
  refine ⟨fun hi => (by simpa [rngD] using hi : n ≤ i), fun y hy => ?_⟩
  have hi : i < n := by have := (List.getElem?_eq_some_iff.mp hy).1; simpa [rngD] using this
  have hy' : D.int (lo + (i : Nat)) = y := by simpa [rngD, hi] using hy
  subst hy'
  refine ⟨hi, fun x H3 hx => ?_⟩
  obtain ⟨rfl, rfl⟩ := hx
  exact ⟨F2, Same.refl F2, s2, rfl⟩
/-- lists (known or not) by pi_list, tuples by pi_tup -/
theorem RI.list {t : TE} {w : WR} (h : RS S t w) : RI S (iList S.K t) (fun env Q => w env fun r e1 => rdK e1 r fun d => match d with
    | .lst xs => Q [(r, .lst xs)] xs e1
    | .rol xs => Q [(r, .rol xs)] xs e1
    | _ => False) := by
  intro Z F env σ H Q R s hw k
  refine h Z F env σ H _ _ s hw fun F1 H1 x r1 e1 q1 s1 i1 rr1 => ?_
  obtain ⟨d1, g1, q1⟩ := rdK_some q1
  have main : ∀ xs, IsSq d1 xs → Q [(r1, d1)] xs e1 → ∃ a, x = .ref a ∧ (∃ xs, SqL S.K H1 a xs) ∧ R (Itl S.K a) H1 := fun xs hs q => by
    obtain ⟨a, ys, ev, h1, h2⟩ := hs.rd i1 (now_rr i1 rr1 g1)
    exact ⟨a, ev, ⟨ys, h1⟩, k _ F1 H1 _ xs e1 _ q (zx_le rr1) s1 (zx_sr i1 rr1) (wlk_list rr1 i1 hs ev)⟩
  cases d1 with
  | lst xs => exact main xs (.inl rfl) q1
  | rol xs => exact main xs (.inr rfl) q1
  | _ => exact False.elim q1
theorem RI.tup {t : TE} {w : WR} (h : RS S t w) : RI S (iTup S.K t) (fun env Q => w env fun r e1 => rdK e1 r fun d => match d with
    | .tup xs => Q [(r, .tup xs)] xs e1
    | _ => False) := by
  intro Z F env σ H Q R s hw k
  refine h Z F env σ H _ _ s hw fun F1 H1 x r1 e1 q1 s1 i1 rr1 => ?_
  obtain ⟨d1, g1, q1⟩ := rdK_some q1
  cases d1 with
  | tup xs =>
    obtain ⟨a, ys, ev, h1, h2⟩ := (now_rr i1 rr1 g1).tup i1.same
    exact ⟨a, ev, ⟨ys, h1⟩, k _ F1 H1 _ xs e1 _ q1 (zx_le rr1) s1 (zx_sr i1 rr1) (wlk_tup rr1 i1 ev)⟩
  | _ => exact False.elim q1

/-- a row or a text of any kind, walked -/
def iAny (K : PySem.W.Frag) (te : TE) : TI := fun σ H R => te σ H fun x H1 => (∃ a, x = .ref a ∧ (∃ xs, SqL K H1 a xs) ∧ R (Itl K a) H1) ∨ (∃ a, x = .ref a ∧ (∃ xs, SqT K H1 a xs) ∧ R (Itt K a) H1) ∨ ∃ z, x = .str z ∧ R (Its z) H1
theorem pi_any {X : Cx} {tg e : Expr} {te : TE} (he : PE X e te) : PI X tg e (iAny X.K te) := by
  constructor
  intro pins s σ H R I h
  refine thn (he.run pins s σ H _ I h) ?_
  rintro v s1 ⟨y, H1, I1, r1, ⟨a, rfl, ⟨xs, hx⟩, q⟩ | ⟨a, rfl, ⟨xs, hx⟩, q⟩ | ⟨z, rfl, q⟩⟩
  · cases r1
    obtain ⟨its, _, p, _⟩ := I1.list hx
    exact wpAny_pyIter_list p.isList (pi_one (tk := s1.toks) I1 _ (turn_list a _) ⟨_, Heap.get?_push_size _ rfl, rfl, rfl⟩ q)
  · cases r1
    obtain ⟨its, _, p, _⟩ := I1.tuple hx
    exact wpAny_pyIter_tuple p (pi_one (tk := s1.toks) I1 _ (turn_tuple a _) ⟨_, Heap.get?_push_size _ rfl, rfl, rfl⟩ q)
  · obtain ⟨t, rfl⟩ := r1
    cases ha : z.cps.all (· < 128)
    · exact wpAny_pyIter_wide ha (pi_one (tk := s1.toks) I1 _ (turn_str _ z t "str_iterator" (.inr rfl)) ⟨_, Heap.get?_push_size _ rfl, rfl, rfl⟩ q)
    · exact wpAny_pyIter_ascii ha (pi_one (tk := s1.toks) I1 _ (turn_str _ z t "str_ascii_iterator" (.inl rfl)) ⟨_, Heap.get?_push_size _ rfl, rfl, rfl⟩ q)
theorem wlk_str {Z F : Hp} {σ : L2.St} {z : Str} : Wlk S Z F [] (strItems z) σ (Its z) := by
  intro Z2 i F2 env2 σ2 H2 le e s2 hσ c
  refine ⟨fun hi => (by simpa [strItems] using hi : z.cps.size ≤ i), fun y hy => ?_⟩
  have hi : i < z.cps.size := by have := (List.getElem?_eq_some_iff.mp hy).1; simpa [strItems] using this
  refine ⟨hi, fun x H3 hx => ?_⟩
  obtain ⟨rfl, c, hc, rfl⟩ := hx
  refine ⟨F2, Same.refl F2, s2, ?_⟩
  have : y = .str ⟨#[c]⟩ := by
    simp [strItems] at hy
    obtain ⟨c', h1, h2⟩ := hy
    rw [hc] at h1; cases h1
    exact h2.symm
  subst this
  exact rfl
theorem RI.any {t : TE} {w : WR} (h : RS S t w) : RI S (iAny S.K t) (fun env Q => w env fun r e1 => rdK e1 r fun d => match d with
    | .lst xs => Q [(r, .lst xs)] xs e1
    | .tup xs => Q [(r, .tup xs)] xs e1
    | .tpn xs => Q [(r, .tpn xs)] xs e1
    | .rol xs => Q [(r, .rol xs)] xs e1
    | .str z => Q [] (strItems z) e1
    | _ => False) := by
  intro Z F env σ H Q R s hw k
  refine h Z F env σ H _ _ s hw fun F1 H1 x r1 e1 q1 s1 i1 rr1 => ?_
  obtain ⟨d1, g1, q1⟩ := rdK_some q1
  have main : ∀ xs, IsSq d1 xs → Q [(r1, d1)] xs e1 → ∃ a, x = .ref a ∧ (∃ xs, SqL S.K H1 a xs) ∧ R (Itl S.K a) H1 := fun xs hs q => by
    obtain ⟨a, ys, ev, h1, h2⟩ := hs.rd i1 (now_rr i1 rr1 g1)
    exact ⟨a, ev, ⟨ys, h1⟩, k _ F1 H1 _ xs e1 _ q (zx_le rr1) s1 (zx_sr i1 rr1) (wlk_list rr1 i1 hs ev)⟩
  cases d1 with
  | lst xs => exact .inl (main xs (.inl rfl) q1)
  | rol xs => exact .inl (main xs (.inr rfl) q1)
  | tup xs =>
    obtain ⟨a, ys, ev, h1, h2⟩ := (now_rr i1 rr1 g1).tup i1.same
    exact .inr (.inl ⟨a, ev, ⟨ys, h1⟩, k _ F1 H1 _ xs e1 _ q1 (zx_le rr1) s1 (zx_sr i1 rr1) (wlk_tup rr1 i1 ev)⟩)
  | tpn xs =>
    obtain ⟨a, ys, ev, _, h1, h2⟩ := (now_rr i1 rr1 g1).tpn i1.same
    exact .inr (.inl ⟨a, ev, ⟨ys, h1⟩, k _ F1 H1 _ xs e1 _ q1 (zx_le rr1) s1 (zx_sr i1 rr1) (wlk_tpn rr1 i1 ev)⟩)
  | str z => exact .inr (.inr ⟨z, (now_rr i1 rr1 g1).str, k _ F1 H1 [] _ e1 _ q1 (fun _ _ h => h) s1 (sr_weak (fun _ _ h => h) i1) wlk_str⟩)
  | _ => exact False.elim q1
theorem RI.rng1 {t : TA} {w : Ev → (List RR → Ev → Prop) → Prop} (h : RL S t w) : RI S (iRng1 t) (fun env Q => w env fun rs e1 => rdKs e1 rs fun ds => match ds with
    | [.int j] => (-(2 ^ 62) ≤ j ∧ j < 2 ^ 62) ∧ Q [] (rngD 0 j.toNat) e1
    | _ => False) := by
  intro Z F env σ H Q R s hw k
  refine h Z F env σ H _ _ s hw fun Z1 F1 H1 vs rs e1 q1 le s1 i1 ok => ?_
  obtain ⟨ds, g, q1⟩ := rdKs_some q1
  have rd := rsok_rd i1 ok g
  split at q1
  · rename_i j
    obtain ⟨v, rfl, r⟩ := one_rd rd
    exact ⟨j, by rw [r.int], q1.1.1, q1.1.2, k Z1 F1 H1 [] _ e1 _ q1.2 le s1 i1 wlk_rng⟩
  · exact False.elim q1
theorem RI.rng2 {t : TA} {w : Ev → (List RR → Ev → Prop) → Prop} (h : RL S t w) : RI S (iRng2 t) (fun env Q => w env fun rs e1 => rdKs e1 rs fun ds => match ds with
    | [.int i, .int j] => (-(2 ^ 62) ≤ i ∧ i < 2 ^ 62 ∧ -(2 ^ 62) ≤ j ∧ j < 2 ^ 62) ∧ Q [] (rngD i (j - i).toNat) e1
    | _ => False) := by
  intro Z F env σ H Q R s hw k
  refine h Z F env σ H _ _ s hw fun Z1 F1 H1 vs rs e1 q1 le s1 i1 ok => ?_
  obtain ⟨ds, g, q1⟩ := rdKs_some q1
  have rd := rsok_rd i1 ok g
  split at q1
  · rename_i i j
    obtain ⟨v, u, rfl, r, r'⟩ := two_rd rd
    exact ⟨i, j, by rw [r.int, r'.int], q1.1, k Z1 F1 H1 [] _ e1 _ q1.2 le s1 i1 wlk_rng⟩
  · exact False.elim q1

/-! ### targets -/
mutual
def tgSl : Tg → List Nat
  | .nm i => [i]
  | .tp ts => tgSls ts
def tgSls : List Tg → List Nat
  | [] => []
  | t :: ts => tgSl t ++ tgSls ts
end
theorem wipe_get {σ : L2.St} {i : Nat} : ∀ {vs : List Nat}, (wipe σ vs)[i]? = if i ∈ vs then (if i < σ.length then some none else none) else σ[i]?
  | [] => by simp [wipe]
  | v :: vs => by
    unfold wipe
    by_cases e : i = v
    · subst e
      rw [List.getElem?_set, wipe_length]
      simp
    · rw [List.getElem?_set_ne (Ne.symm e), wipe_get (vs := vs)]
      simp [e]
theorem wipe_ext {σ τ : L2.St} {vs : List Nat} (hl : τ.length = σ.length) (h : ∀ i, i ∉ vs → τ[i]? = σ[i]?) : wipe τ vs = wipe σ vs := by
  apply List.ext_getElem?
  intro i
  rw [wipe_get, wipe_get, hl]
  by_cases e : i ∈ vs
  · simp [e]
  · simp [e, h i e]
theorem wipe_wipe {σ : L2.St} {vs : List Nat} : wipe (wipe σ vs) vs = wipe σ vs := by
  apply wipe_ext (wipe_length _ _)
  intro i hi
  rw [wipe_get, if_neg hi]
theorem wipeE_len (env : Ev) : ∀ vs : List Nat, (wipeE env vs).length = env.length
  | [] => rfl
  | v :: vs => by unfold wipeE; rw [List.length_set, wipeE_len env vs]
theorem wipeE_get {env : Ev} {i : Nat} : ∀ {vs : List Nat}, (wipeE env vs)[i]? = if i ∈ vs then (if i < env.length then some .un else none) else env[i]?
  | [] => by simp [wipeE]
  | v :: vs => by
    unfold wipeE
    by_cases e : i = v
    · subst e
      rw [List.getElem?_set, wipeE_len]
      simp
    · rw [List.getElem?_set_ne (Ne.symm e), wipeE_get (vs := vs)]
      simp [e]
theorem backE_len (e0 env : Ev) : ∀ vs : List Nat, (backE e0 env vs).length = env.length
  | [] => rfl
  | v :: vs => by unfold backE; rw [List.length_set, backE_len e0 env vs]
theorem backE_get {e0 env : Ev} {i : Nat} : ∀ {vs : List Nat}, (backE e0 env vs)[i]? = if i ∈ vs then (if i < env.length then some (e0.getD i .un) else none) else env[i]?
  | [] => by simp [backE]
  | v :: vs => by
    unfold backE
    by_cases e : i = v
    · subst e
      rw [List.getElem?_set, backE_len]
      simp
    · rw [List.getElem?_set_ne (Ne.symm e), backE_get (vs := vs)]
      simp [e]
theorem sr_wipe {Z F H : Hp} {env : Ev} {σ : L2.St} (s : SR S Z F env σ H) (vs : List Nat) : SR S Z F (wipeE env vs) (wipe σ vs) H := by
  have out : ∀ (i : Nat) (x : Sl), (wipeE env vs)[i]? = some x → x ≠ .un → i ∉ vs ∧ env[i]? = some x := fun i x h nx => by
    rw [wipeE_get] at h
    by_cases e : i ∈ vs
    · rw [if_pos e] at h
      split at h
      · cases h; exact absurd rfl nx
      · cases h
    · rw [if_neg e] at h; exact ⟨e, h⟩
  have sg : ∀ i : Nat, i ∉ vs → (wipe σ vs)[i]? = σ[i]? := fun i h => by rw [wipe_get, if_neg h]
  refine ⟨s.same, s.prot, by rw [wipe_length, wipeE_len]; exact s.len, fun i d h => ?_, fun i d h => ?_, fun i j d e a h1 h2 h3 h4 => ?_⟩
  · obtain ⟨h1, h2⟩ := out i _ h (fun z => nomatch z)
    rw [sg i h1]; exact s.val i d h2
  · obtain ⟨h1, h2⟩ := out i _ h (fun z => nomatch z)
    rw [sg i h1]; exact s.own i d h2
  · obtain ⟨g1, g2⟩ := out i _ h1 (fun z => nomatch z)
    obtain ⟨g3, g4⟩ := out j _ h2 (fun z => nomatch z)
    rw [sg i g1] at h3
    rw [sg j g3] at h4
    exact s.sep i j d e a g2 g4 h3 h4
/-- a target's reading -/
def RG (S : Sg) (g : TG) (tg : Tg) : Prop :=
  ∀ (Z F : Hp) (env : Ev) (σ : L2.St) (H : Hp) (d : D) (v : V) (env' : Ev) (Q' : L2.St → Hp → Prop), SR S Z F env σ H → Rep S F d v → bindT tg d env = some env' →
    (∀ σ', SR S Z F env' σ' H → σ'.length = σ.length → (∀ i, i ∉ tgSl tg → σ'[i]? = σ[i]? ∧ env'[i]? = env[i]?) → Q' σ' H) → g v σ H Q'
def RGs (S : Sg) (g : TGs) (tgs : List Tg) : Prop :=
  ∀ (Z F : Hp) (env : Ev) (σ : L2.St) (H : Hp) (ds : List D) (vs : List V) (env' : Ev) (Q' : L2.St → Hp → Prop), SR S Z F env σ H → Reps S F ds vs → bindT.bindTs tgs ds env = some env' →
    (∀ σ', SR S Z F env' σ' H → σ'.length = σ.length → (∀ i, i ∉ tgSls tgs → σ'[i]? = σ[i]? ∧ env'[i]? = env[i]?) → Q' σ' H) → g vs σ H Q'
theorem RG.nm {i : Nat} : RG S (gName i) (.nm i) := by
  intro Z F env σ H d v env' Q' s r b k
  have b : (if i < env.length then some (env.set i (.val d)) else none) = some env' := by
    have b : cond (decide (i < env.length)) (some (env.set i (.val d))) none = some env' := by simpa [bindT] using b
    by_cases h : i < env.length
    · rw [if_pos h]; simpa [h] using b
    · rw [if_neg h]; simp [h] at b
  by_cases h : i < env.length
  · rw [if_pos h] at b; cases b
    refine k _ (sr_setV s h r) (by simp) fun j hj => ?_
    have ne : j ≠ i := fun e => hj (by simp [tgSl, e])
    exact ⟨by rw [List.getElem?_set_ne (Ne.symm ne)], by rw [List.getElem?_set_ne (Ne.symm ne)]⟩
  · rw [if_neg h] at b; cases b
theorem RGs.nil : RGs S gNil [] := by
  intro Z F env σ H ds vs env' Q' s r b k
  cases ds with
  | nil =>
    cases (show vs = [] from r)
    have : env = env' := by simpa [bindT.bindTs] using b
    subst this
    exact ⟨rfl, k σ s rfl fun _ _ => ⟨rfl, rfl⟩⟩
  | cons d ds => simp [bindT.bindTs] at b
theorem RGs.cons {g : TG} {gs : TGs} {t : Tg} {ts : List Tg} (h : RG S g t) (hs : RGs S gs ts) : RGs S (gCons g gs) (t :: ts) := by
  intro Z F env σ H ds vs env' Q' s r b k
  cases ds with
  | nil => simp [bindT.bindTs] at b
  | cons d ds =>
    obtain ⟨v, us, rfl, r1, r2⟩ := r
    cases q : bindT t d env with
    | none => simp [bindT.bindTs, q] at b
    | some e1 =>
      have b : bindT.bindTs ts ds e1 = some env' := by simpa [bindT.bindTs, q] using b
      refine ⟨v, us, rfl, h Z F env σ H d v e1 _ s r1 q fun σ1 s1 l1 f1 => ?_⟩
      refine hs Z F e1 σ1 H ds us env' _ s1 r2 b fun σ2 s2 l2 f2 => k σ2 s2 (l2.trans l1) fun i hi => ?_
      have hi' : i ∉ tgSl t ∧ i ∉ tgSls ts := by simpa [tgSls] using hi
      exact ⟨(f2 i hi'.2).1.trans (f1 i hi'.1).1, (f2 i hi'.2).2.trans (f1 i hi'.1).2⟩
def gSq (K : PySem.W.Frag) (n : Nat) (t : TGs) : TG := fun v σ H Q => gTup K n t v σ H Q ∨ gLst K n t v σ H Q
theorem bind_len : ∀ (ts : List Tg) (ds : List D) (env env' : Ev), bindT.bindTs ts ds env = some env' → ts.length = ds.length := by
  intro ts
  induction ts with
  | nil => intro ds env env' b; cases ds with
    | nil => rfl
    | cons _ _ => simp [bindT.bindTs] at b
  | cons t ts ih => intro ds env env' b; cases ds with
    | nil => simp [bindT.bindTs] at b
    | cons d ds =>
      cases q : bindT t d env with
      | none => simp [bindT.bindTs, q] at b
      | some e1 =>
        have b : bindT.bindTs ts ds e1 = some env' := by simpa [bindT.bindTs, q] using b
        simp [ih ds e1 env' b]
theorem RG.tp {gs : TGs} {ts : List Tg} {n : Nat} (h : RGs S gs ts) (hn : ts.length = n) : RG S (gSq S.K n gs) (.tp ts) := by
  intro Z F env σ H d v env' Q' s r b k
  cases d with
  | tup ds =>
    obtain ⟨a, xs, rfl, h1, h2⟩ := r
    have b : bindT.bindTs ts ds env = some env' := by simpa [bindT] using b
    exact .inl ⟨a, xs, rfl, sqt_mono s.same h1, by rw [h2.length, ← bind_len _ _ _ _ b, hn], h Z F env σ H ds xs env' _ s h2 b fun σ' s' l f => k σ' s' l fun i hi => f i (by simpa [tgSl] using hi)⟩
  | lst ds =>
    obtain ⟨a, xs, rfl, h1, h2⟩ := r
    have b : bindT.bindTs ts ds env = some env' := by simpa [bindT] using b
    exact .inr ⟨a, xs, rfl, SqL.of (s.same _ _ h1), by rw [h2.length, ← bind_len _ _ _ _ b, hn], h Z F env σ H ds xs env' _ s h2 b fun σ' s' l f => k σ' s' l fun i hi => f i (by simpa [tgSl] using hi)⟩
  | tpn ds =>
    obtain ⟨a, xs, rfl, ⟨o, h1, _⟩, h2⟩ := r
    have b : bindT.bindTs ts ds env = some env' := by simpa [bindT] using b
    exact .inl ⟨a, xs, rfl, .inl (.inr ⟨o, s.same _ _ h1⟩), by rw [h2.length, ← bind_len _ _ _ _ b, hn], h Z F env σ H ds xs env' _ s h2 b fun σ' s' l f => k σ' s' l fun i hi => f i (by simpa [tgSl] using hi)⟩
  | _ => simp [bindT] at b
theorem pg_sq {X : Cx} {es : List Expr} {k : Nat} {t : TGs} {n : Nat} {pos : Pos} (hc : X.calm = true) (h : PGs X es t) (hn : (assignEach es X.env).length = n) (hst : (assignEach es X.env).findIdx? (·.1) = none) : PG X (.Tuple es k pos) (gSq X.K n t) := by
  refine ⟨fun pins s σ H v u Q I r hw => ?_⟩
  rcases hw with hw | hw
  · exact (pg_tup hc h hn hst).run pins s σ H v u Q I r hw
  · exact (pg_lst hc h hn hst).run pins s σ H v u Q I r hw

/-- a new list, under the hand of whoever fills it -/
theorem sr_guard {Z F H : Hp} {env : Ev} {σ : L2.St} {a : Addr} {o : HO} (s : SR S Z F env σ H) (h : H a = some o) (hf : F a = none) (hn : ∀ (i : Nat) (e : D), env[i]? = some (.own e) → σ[i]? ≠ some (some (V.ref a))) : SR S (upd Z a o) F env σ H := by
  refine ⟨s.same, fun b u q => ?_, s.len, s.val, fun i e q => ?_, s.sep⟩
  · by_cases e : b = a
    · subst e; rw [upd_same] at q; cases q; exact ⟨h, hf⟩
    · rw [upd_ne e] at q; exact s.prot b u q
  · obtain ⟨b, u, h1, h2, h3, h4, h5⟩ := s.own i e q
    have ne : b ≠ a := fun z => hn i e q (by rw [h1, z])
    exact ⟨b, u, h1, h2, h3, h4, by rw [upd_ne ne]; exact h5⟩
/-- it is filled by one more -/
theorem sr_fill {Z F H : Hp} {env : Ev} {σ : L2.St} {a : Addr} {o u : HO} (s : SR S (upd Z a o) F env σ H) : SR S (upd Z a u) F env σ (upd H a u) := by
  obtain ⟨h1, h2⟩ := s.prot a o upd_same
  refine ⟨same_upd s.same h2, fun b w q => ?_, s.len, s.val, fun i e q => ?_, s.sep⟩
  · by_cases e : b = a
    · subst e; rw [upd_same] at q ⊢; exact ⟨q, h2⟩
    · rw [upd_ne e] at q ⊢
      exact s.prot b w (by rw [upd_ne e]; exact q)
  · obtain ⟨b, w, g1, g2, g3, g4, g5⟩ := s.own i e q
    have ne : b ≠ a := fun z => by subst z; rw [upd_same] at g5; cases g5
    exact ⟨b, w, g1, by rw [upd_ne ne]; exact g2, g3, g4, by rw [upd_ne ne] at g5 ⊢; exact g5⟩
theorem guard_le {Z : Hp} {a : Addr} {o : HO} (h : Z a = none) : ∀ b u, Z b = some u → upd Z a o b = some u := fun b u q => by
  rw [upd_ne (ne_of_none q h)]; exact q
theorem lcLoop_len {turn : D → Ev → (D → Ev → Prop) → (Ev → Prop) → Prop} {src : List (RR × D)} {Q : List D → Ev → Prop} : ∀ {items acc : List D} {env : Ev}, lcLoop turn src Q items acc env → chk src env
  | [], _, _, h => (lcLoop_n h).1
  | _ :: _, _, _, h => (lcLoop_c h).1
theorem RS.lc {wi : TI} {wI : Ev → (List (RR × D) → List D → Ev → Prop) → Prop} {g : TG} {tg : Tg} {tt : TT} {wIf : WT} {te : TE} {wEl : WR} {own : List Nat} (hi : RI S wi wI) (hg : RG S g tg) (ht : RT S tt wIf) (he : RS S te wEl)
    (hsub : ∀ i ∈ tgSl tg, i ∈ own) : RS S (tLc wi g tt te own) (fun env Q => wI env fun src items e1 => noOwn e1 own = true ∧ srcOk src own = true ∧
      forceK (wipeE e1 own) fun e0 => lcLoop (fun d e ky kn => match bindT tg d e with
        | some e2 => wIf e2 fun b e3 => ifB b (wEl e3 (fun r e4 => match r with | .val y => ky y (wipeE e4 own) | _ => False)) (kn (wipeE e3 own))
        | none => False) src (fun acc e2 => Q (.fr (.lst acc)) (backE e1 e2 own)) items [] e0) := by
  intro Z F env σ H Q Q' s hw k
  refine hi Z F env σ H _ _ s hw fun Z1 F1 H1 src items e1 J q1 le1 s1 i1 wk => ?_
  obtain ⟨hno, hsrc, loop⟩ := q1
  replace loop := forceK_o loop
  intro D0 hD
  have zD : Z1 D0 = none := by
    cases q : Z1 D0 with
    | none => rfl
    | some u => rw [(i1.prot D0 u q).1] at hD; cases hD
  have fD : F1 D0 = none := fresh_F i1 hD
  -- the loop's word
  let W : Nat → Nat → Hp → Prop := fun i m H2 => m = items.length - i ∧ i ≤ items.length ∧ ∃ (F2 : Hp) (e2 : Ev) (acc : List D) (av : List V), Same F1 F2 ∧ SR S (upd Z1 D0 (.lst av)) F2 e2 (wipe σ own) H2 ∧ Reps S F2 acc av ∧
    lcLoop (fun d e ky kn => match bindT tg d e with
        | some e2 => wIf e2 fun b e3 => ifB b (wEl e3 (fun r e4 => match r with | .val y => ky y (wipeE e4 own) | _ => False)) (kn (wipeE e3 own))
        | none => False) src (fun acc e2 => Q (.fr (.lst acc)) (backE e1 e2 own)) (items.drop i) acc e2
  refine ⟨W, ⟨items.length, by simp, Nat.zero_le _, F1, wipeE e1 own, [], [], Same.refl F1, ?_, rfl, by simpa using loop⟩, ?_⟩
  · have i2 := sr_wipe i1 own
    have i3 := sr_newH (o := .lst []) i2 hD
    exact sr_guard i3 upd_same fD fun i e q z => by
      obtain ⟨a, u, g1, g2, _⟩ := i2.own i e q
      rw [z] at g1; cases g1
      rw [hD] at g2; cases g2
  rintro i m H2 ⟨rfl, hil, F2, e2, acc, av, sF, i2, racc, lp⟩
  have ck : chk src e2 := lcLoop_len lp
  have i2' : SR S Z1 F2 e2 (wipe σ own) H2 := sr_weak (guard_le zD) i2
  have hσ : ∀ p ∈ src, ∀ k, p.1 = .sl k → (wipe σ own)[k]? = σ[k]? := fun p hp k hk => by
    have := List.all_eq_true.mp hsrc p hp
    rw [hk] at this
    rw [wipe_get, if_neg (by simpa using this)]
  obtain ⟨wstop, wgo⟩ := wk _ i F2 e2 (wipe σ own) H2 (guard_le zD) sF i2 hσ ck
  by_cases hlt : i < items.length
  · obtain ⟨y, hy⟩ : ∃ y, items[i]? = some y := ⟨_, List.getElem?_eq_getElem hlt⟩
    have hdrop : items.drop i = y :: items.drop (i + 1) := by
      rw [List.drop_eq_getElem_cons hlt]
      rw [List.getElem?_eq_getElem hlt] at hy
      cases hy; rfl
    rw [hdrop] at lp
    obtain ⟨_, hacc, lp⟩ := lcLoop_c lp
    obtain ⟨jgo, jy⟩ := wgo y hy
    refine .inr ⟨jgo, W (i + 1) (items.length - (i + 1)), fun H3 w => ⟨_, by omega, w⟩, fun x H3 hx => ?_⟩
    · obtain ⟨F3, sF3, i3, r3⟩ := jy x H3 hx
      cases qb : bindT tg y e2 with
      | none => simp only [qb] at lp
      | some e3 =>
        simp only [qb] at lp
        refine hg _ F3 e2 (wipe σ own) H3 y x e3 _ i3 r3 qb fun σ4 i4 l4 f4 => ?_
        have wp4 : wipe σ4 own = wipe σ own := by
          rw [← wipe_wipe (σ := σ)]
          exact wipe_ext l4 fun j hj => (f4 j fun z => hj (hsub j z)).1
        refine ⟨wp4, ht _ F3 e3 σ4 H3 _ _ i4 lp fun F5 H5 b e5 q5 s5 i5 => ?_⟩
        cases b with
        | false =>
          have q5 : lcLoop _ src _ (items.drop (i + 1)) acc (wipeE e5 own) := ifB_f q5
          have i6 := sr_wipe i5 own
          rw [wp4] at i6
          exact ⟨rfl, hlt, F5, _, acc, av, (sF.trans sF3).trans s5, i6, Reps.mono (sF3.trans s5) _ _ racc, q5⟩
        | true =>
          refine he _ F5 e5 σ4 H5 _ _ i5 (ifB_t q5) fun F6 H6 w r6 e6 q6 s6 i6 rr6 => ?_
          cases r6 with
          | val z =>
            have q6 : lcLoop _ src _ (items.drop (i + 1)) (acc ++ [z]) (wipeE e6 own) := q6
            obtain ⟨h1, h2⟩ := i6.prot D0 _ upd_same
            have racc' := Reps.mono ((sF3.trans s5).trans s6) _ _ racc
            refine ⟨av, h1, by rw [racc.length]; exact Nat.lt_of_lt_of_le hacc (by rw [lim_eq]; exact Nat.le_refl _), rfl, hlt, F6, _, acc ++ [z], av ++ [w], ((sF.trans sF3).trans s5).trans s6, ?_, racc'.append (Reps.one rr6), q6⟩
            have i7 := sr_wipe (sr_fill (u := .lst (av ++ [w])) i6) own
            rw [wp4] at i7
            exact i7
          | fr z => exact False.elim q6
          | sl z => exact False.elim q6
  · have e : i = items.length := by omega
    subst e
    refine .inl ⟨wstop (Nat.le_refl _), ?_⟩
    rw [List.drop_length] at lp
    obtain ⟨_, q⟩ := lcLoop_n lp
    obtain ⟨h1, h2⟩ := i2.prot D0 _ upd_same
    have back : SR S Z1 F2 (backE e1 e2 own) σ H2 := by
      have out : ∀ (j : Nat) (x : Sl), (backE e1 e2 own)[j]? = some x → (j ∈ own ∧ ((∃ d, x = .val d ∧ e1[j]? = some (.val d)) ∨ x = .un)) ∨ (j ∉ own ∧ e2[j]? = some x) := fun j x h => by
        rw [backE_get] at h
        by_cases e : j ∈ own
        · rw [if_pos e] at h
          split at h
          · cases h
            refine .inl ⟨e, ?_⟩
            have := List.all_eq_true.mp hno j e
            cases w : e1[j]? with
            | none => rw [w] at this; simp at this
            | some x =>
              rw [w] at this
              rw [List.getD_eq_getElem?_getD, w]
              cases x with
              | un => exact .inr rfl
              | val d => exact .inl ⟨d, rfl, rfl⟩
              | own d => simp at this
          · cases h
        · rw [if_neg e] at h; exact .inr ⟨e, h⟩
      have sg : ∀ j : Nat, j ∉ own → (wipe σ own)[j]? = σ[j]? := fun j h => by rw [wipe_get, if_neg h]
      refine ⟨i2'.same, i2'.prot, by rw [backE_len, ← i2'.len, wipe_length], fun j d h => ?_, fun j d h => ?_, fun j l d e a g1 g2 g3 g4 => ?_⟩
      · rcases out j _ h with ⟨_, ⟨d', e, h'⟩ | h'⟩ | ⟨ho, h'⟩
        · cases e
          obtain ⟨v, p1, p2⟩ := i1.val j d h'
          exact ⟨v, p1, Rep.mono sF _ _ p2⟩
        · cases h'
        · rw [← sg j ho]; exact i2'.val j d h'
      · rcases out j _ h with ⟨_, ⟨d', e, h'⟩ | h'⟩ | ⟨ho, h'⟩
        · cases e
        · cases h'
        · rw [← sg j ho]; exact i2'.own j d h'
      · rcases out j _ g1 with ⟨_, ⟨d', e, h'⟩ | h'⟩ | ⟨ho, h'⟩
        · cases e
        · cases h'
        · rcases out l _ g2 with ⟨_, ⟨d', e, h''⟩ | h''⟩ | ⟨ho', h''⟩
          · cases e
          · cases h''
          · exact i2'.sep j l d e a h' h'' (by rw [sg j ho]; exact g3) (by rw [sg l ho']; exact g4)
    refine k F2 H2 _ _ _ q (s1.trans sF) (sr_weak le1 back) ⟨D0, .lst av, rfl, h1, ⟨av, rfl, racc⟩, h2, ?_, fun j d h z => ?_⟩
    · cases w : Z D0 with
      | none => rfl
      | some u => rw [le1 D0 u w] at zD; cases zD
    · rw [backE_get] at h
      by_cases e : j ∈ own
      · rw [if_pos e] at h
        split at h
        · have := List.all_eq_true.mp hno j e
          cases w : e1[j]? with
          | none => rw [w] at this; simp at this
          | some x =>
            rw [w] at this
            rw [List.getD_eq_getElem?_getD, w] at h
            cases x with
            | own d => simp at this
            | un => simp at h
            | val d => simp at h
        · cases h
      · rw [if_neg e] at h
        obtain ⟨a, u, g1, g2, g3, g4, g5⟩ := i2.own j d h
        rw [wipe_get, if_neg e, z] at g1
        cases g1
        rw [upd_same] at g5; cases g5
end
end PV

/-! PV: the text and the small language; expressions. -/
namespace PV
open PySem L2

/-! ### the world a text stands in -/
def btNames : List Str := ["len", "int", "abs", "str", "bool", "tuple", "list", "sum", "min", "max", "all", "any", "sorted", "range", "enumerate", "zip", "isinstance", "set", "dict", "repr"]
/-- C.m is a staticmethod: its record at p, its def at g -/
structure SMet (K : PySem.W.Frag) (C : Addr) (m : Str) (p g : Addr) : Prop where
  rd : ClX.CRead K C (.type "type")
  at_ : PySem.W.findCls K (.ref C) (.type "type") m = some (.get (.builtin "staticmethod.__get__") (.ref p) .none (.ref C))
  rc : ∃ rest, PySem.W.recIn K p "staticmethod" = some (.ref g :: rest)
  kp : PySem.W.keepIn K (.ref g) = true
/-- isinstance of C's instances -/
structure InsF (K : PySem.W.Frag) (C : Addr) : Prop where
  cl : Cls K C
  ha : PySem.W.findIn K (.ref C) "__class__" = some (some (.builtin "object.__class__"))
  hn : PySem.W.specialIn K (.builtin "object.__class__") "__get__" = some (some (.builtin "getset_descriptor.__get__"))
  ht : PySem.W.takesIn K (.builtin "object.__class__") = some true
  hm : PySem.W.mroIn K C (.type "object") = some true
def tnV (S : Sg) : Tn → Value
  | .str => .type "str" | .int => .type "int" | .bool => .type "bool" | .tup => .type "tuple" | .lst => .type "list" | .dct => .type "dict" | .own c => .ref (S.ca c)
/-- a promise with a star parameter: what is left over is a new tuple -/
def spRest (n : Nat) (sp : Sp) : Sp := fun vs H Q E => ∃ ws rest, vs = ws ++ rest ∧ ws.length = n ∧ rest.length ≤ sizeLine ∧ ∀ p, H p = none → sp (ws ++ [V.ref p]) (upd H p (.tup rest)) Q E
/-- a promise, where no repr is under way -/
def FnG (P : Program) (w : World) (K : PySem.W.Frag) (mg : Str → Option Value) (base : Heap) (CX : CXT) (k : Nat) (f : Addr) (sp : Sp) : Prop :=
  ∀ (A : Around) (outer : List Env) (s : Shared) (H : Hp) (us : List Value) (vs : List V) (Q : VK) (E : XK), Room k A → A.guards = some [] → Env0 P w K mg base A outer s H → Vals vs us → sp vs H Q E → codeAny (model P w) A (.call (.ref f) ⟨us, []⟩) (CR CX outer P w H s Q E) s
/-- a promise by the first n places and the keywords ks -/
def FnRK (P : Program) (w : World) (K : PySem.W.Frag) (mg : Str → Option Value) (base : Heap) (CX : CXT) (k : Nat) (f : Addr) (n : Nat) (ks : List Str) (sp : Sp) : Prop :=
  ∀ (A : Around) (outer : List Env) (s : Shared) (H : Hp) (us ws : List Value) (vs zs : List V) (Q : VK) (E : XK), Room k A → A.guards = some [] → Env0 P w K mg base A outer s H → Vals vs us → Vals zs ws → us.length = n → ws.length = ks.length → sp (vs ++ zs) H Q E →
    codeAny (model P w) A (.call (.ref f) ⟨us, ks.zip ws⟩) (CR CX outer P w H s Q E) s
/-! own operators -/
theorem dunN_eq (op : BOp) : PySem.dunder (bOp op).info.2 = dunN op := by cases op <;> decide +kernel
theorem dunR_eq (op : BOp) : dunderR (bOp op).info.2 = dunR' op := by cases op <;> decide +kernel
structure Dun (K : PySem.W.Frag) (op : BOp) (C : Addr) (f : Addr) : Prop where
  m : Meth K C (dunN op) f
  c : dunC op K C = true
/-- what is known of one def -/
def FT (P : Program) (w : World) (K : PySem.W.Frag) (mg : Str → Option Value) (base : Heap) (S : Sg) (sp : Spec) (i : Fi) : Prop := match i.kd with
    | .fn x => ∃ a, mg x = some (.ref a) ∧ PySem.W.keepIn K (.ref a) = true ∧ FnG P w K mg base CX0 i.lv a (spOf S i.io sp)
    | .meth c x => ∃ a, Meth K (S.ca c) x a ∧ FnG P w K mg base CX0 i.lv a (spOf S i.io sp)
    | .init c => ∃ a, Mk K (S.ca c) a ∧ FnG P w K mg base CX0 i.lv a (spOf S i.io sp)
    | .stat c x => ∃ a p, SMet K (S.ca c) x p a ∧ FnG P w K mg base CX0 i.lv a (spOf S i.io sp)
    | .initS c => ∃ a, Mk K (S.ca c) a ∧ i.io = [true, false] ∧ FnG P w K mg base CX0 i.lv a (spRest 1 (spOf S i.io sp))
    | .strm c => ∃ a, (Meth K (S.ca c) "__str__" a ∧ PySem.W.findIn K (.ref (S.ca c)) "__format__" = some (some (.builtin "object.__format__")) ∧ PySem.W.mroIn K (S.ca c) (.type "object") = some true) ∧ FnG P w K mg base CX0 i.lv a (spOf S i.io sp)
    | .dun op c => ∃ a, Dun K op (S.ca c) a ∧ FnG P w K mg base CX0 i.lv a (spOf S i.io sp)
    | .methK c x n ks => ∃ a, Meth K (S.ca c) x a ∧ FnRK P w K mg base CX0 i.lv a n ks (spOf S i.io sp)
    | .fnK x n ks => ∃ a, mg x = some (.ref a) ∧ PySem.W.keepIn K (.ref a) = true ∧ FnRK P w K mg base CX0 i.lv a n ks (spOf S i.io sp)
structure WOk (P : Program) (w : World) (K : PySem.W.Frag) (mg : Str → Option Value) (base : Heap) (S : Sg) (G : Gt) : Prop where
  hK : S.K = K
  lay : ∀ c, S.lay c = G.lay.getD c []
  fns : ∀ (f : Nat) (i : Fi), G.fi[f]? = some i → i.lv ≤ G.room → FT P w K mg base S (G.sp f) i
  cls : ∀ (c : Nat) (x : Str), G.cn[c]? = some x → Cls K (S.ca c) ∧ mg x = some (.ref (S.ca c)) ∧ ((S.lay c).Nodup) ∧ ∀ (k : Nat) (y : Str), (S.lay c)[k]? = some y → NoAttr K (S.ca c) y
  gls : ∀ (g : Nat) (x : Str) (d : D), G.gl[g]? = some (x, d) → ∃ u v, mg x = some u ∧ RelV v u ∧ Rep S (fun _ => none) d v
  bt : ∀ x ∈ btNames, mg x = none
  isi : ∀ (c : Nat) (t : Tn) (b : Bool), G.isi c t = some b → InsF K (S.ca c) ∧ PySem.W.kitOne K (.ref (S.ca c)) (tnV S t) = some b
  tbs : ∀ (g : Nat) (x : Str) (kvs : List (Str × Int)), G.tb[g]? = some (x, kvs) → ∃ a es n, mg x = some (.ref a) ∧ KDict K w a es n ∧ ∀ q ∈ kvs, ∃ u, PySem.W.nsIn K a q.1 = some (some u) ∧ RelV (.int q.2) u
  nms : ∀ x ∈ G.nm, ∃ a, mg x = some (.ref a)
  isb : ∀ (c : Nat) (x : Str), G.cn[c]? = some x → ∀ n ∈ ["NoneType", "bool", "int", "str", "tuple", "list", "dict"], PySem.W.kitOne K (.type n) (.ref (S.ca c)) = some false
/-- what is known of a block's text: its names by slot, its scope; a comprehension's own scope -/
structure Cs where
  N : List Str
  sc : Scope
  oc : Option Scope
def lk (sc : Scope) (x : Str) : Option NameKind := sc.names.lookup x
structure XOk (X : Cx) (S : Sg) (G : Gt) (c : Cs) : Prop where
  w : WOk X.prog X.w X.K X.mg X.base S G
  N : X.N = c.N
  nd : X.N.Nodup
  sc : X.env.scope = c.sc
  fn : ∀ x, lk c.sc x = some .cell → (match c.oc with | none => True | some s => lk s x = some .cell) → X.fn x = true
  calm : X.calm = true
  room : Room G.room X.A
  gd : X.A.guards = some []
  xe : X.xe = fun _ _ => False
  st : c.oc = none → X.stack = X.env :: X.outer ∧ X.env.frame = some X.env.locals

/-! ### matching -/
def visB (sc : Scope) (x : Str) : Bool := match lk sc x with | some .local => true | some .cell => true | some .free => true | _ => false
def glbB (sc : Scope) (x : Str) : Bool := match lk sc x with | some .globalImplicit => true | _ => false
def plainN (x : Str) : Bool := !(x == ("__debug__" : Str)) && !(x == ("__classdict__" : Str)) && !(x == ("__name__" : Str))
def storeB (c : Cs) (i : Nat) (x : Str) : Bool := decide (c.N[i]? = some x) && (match lk c.sc x with
  | some .local => true
  | some .cell => (match c.oc with | none => true | some s => (match lk s x with | some .cell => true | _ => false))
  | _ => false)
def noStar : Expr → Bool | .Starred _ _ => false | _ => true
def notSuper : Expr → Bool | .Call (.Name _ _) [] [] _ => false | _ => true
def notSet : Expr → Bool | .Set _ _ _ => false | _ => true
def isSlice : Expr → Bool | .Slice _ _ _ _ => true | _ => false
def cmpC : D → Const → Bool
  | .non, .none => true
  | .bl a, .bool b => a == b
  | .int a, .int b => decide (a = b)
  | .str a, .str b => decide (a = b)
  | _, _ => false
def fnB (G : Gt) (f : Nat) (x : Str) : Bool := match G.fi[f]? with
  | some i => decide (i.lv ≤ G.room) && (match i.kd with | .fn y => decide (y = x) | _ => false)
  | none => false
def methB (G : Gt) (c f : Nat) (x : Str) : Bool := match G.fi[f]? with
  | some i => decide (i.lv ≤ G.room) && (match i.kd with | .meth c' y => decide (c' = c) && decide (y = x) | _ => false) && !(G.lay.getD c []).contains x && (G.cn[c]?).isSome
  | none => false
def dunB (G : Gt) (op : BOp) (c f : Nat) : Bool := match G.fi[f]? with
  | some i => decide (i.lv ≤ G.room) && (match i.kd with | .dun op' c' => decide (op' = op) && decide (c' = c) | _ => false)
  | none => false
def initB (G : Gt) (c f : Nat) (x : Str) : Bool := match G.fi[f]? with
  | some i => decide (i.lv + 1 ≤ G.room) && (match i.kd with | .init c' => decide (c' = c) | _ => false) && decide (G.cn[c]? = some x)
  | none => false
def statB (G : Gt) (f : Nat) (C m : Str) : Bool := match G.fi[f]? with
  | some i => decide (i.lv ≤ G.room) && (match i.kd with | .stat c y => decide (y = m) && decide (G.cn[c]? = some C) | _ => false)
  | none => false
def initSB (G : Gt) (c f : Nat) (x : Str) : Bool := match G.fi[f]? with
  | some i => decide (i.lv + 1 ≤ G.room) && (match i.kd with | .initS c' => decide (c' = c) | _ => false) && decide (G.cn[c]? = some x)
  | none => false
def lenB (G : Gt) (c f : Nat) : Bool := match G.fi[f]? with
  | some i => decide (i.lv + 1 ≤ G.room) && methB G c f "__len__"
  | none => false
def strB (G : Gt) (c f : Nat) : Bool := match G.fi[f]? with
  | some i => decide (i.lv + 1 ≤ G.room) && (match i.kd with | .strm c' => decide (c' = c) | _ => false)
  | none => false
def fnKB (G : Gt) (f : Nat) (x : Str) (n : Nat) (ks : List (Option Str)) : Bool := match G.fi[f]? with
  | some i => decide (i.lv ≤ G.room) && (match i.kd with | .fnK y m ks' => decide (y = x) && decide (m = n) && decide (ks'.map some = ks) | _ => false)
  | none => false
def methKB (G : Gt) (c f : Nat) (x : Str) (n : Nat) (ks : List (Option Str)) : Bool := match G.fi[f]? with
  | some i => decide (i.lv ≤ G.room) && (match i.kd with | .methK c' y m ks' => decide (c' = c) && decide (y = x) && decide (m = n) && decide (ks'.map some = ks) | _ => false) && !(G.lay.getD c []).contains x && (G.cn[c]?).isSome
  | none => false
def tnName (G : Gt) (t : Tn) (x : Str) : Bool := match t with
  | .str => decide (x = "str") | .int => decide (x = "int") | .bool => decide (x = "bool") | .tup => decide (x = "tuple") | .lst => decide (x = "list") | .dct => decide (x = "dict")
  | .own c => decide (G.cn[c]? = some x)
def mName : Mi → Str | .split => "split" | .join => "join" | .sindex => "index" | .tindex => "index" | .lindex => "index" | .cnt => "count"
def blkS (c : Cs) (scope : Scope) : Cs := { N := c.N, sc := relS scope c.sc, oc := some scope }
def ownP (c : Cs) (own : List Nat) : List (Str × Nat) := own.map fun i => (c.N.getD i "", i)
mutual
def cmpT (c : Cs) : Tg → Expr → Bool
  | .nm i => fun e => match e with | .Name x _ => storeB c i x | _ => false
  | .tp ts => fun e => match e with | .Tuple es _ _ => cmpTs c ts es | _ => false
def cmpTs (c : Cs) : List Tg → List Expr → Bool
  | [] => fun es => es.isEmpty
  | t :: ts => fun es => match es with | e :: r => noStar e && cmpT c t e && cmpTs c ts r | [] => false
end
def isFmt : Expr → Bool | .FormattedValue _ _ _ _ => true | _ => false
def fstB : List Expr → Bool | [] => false | [x] => isFmt x | _ :: _ :: _ => true
def isTxt : E → Bool | .lit (.str _) => true | _ => false
mutual
def cmpE (G : Gt) : E → Cs → Expr → Bool
  | .var i => fun c e => match e with | .Name x _ => decide (c.N[i]? = some x) && visB c.sc x && plainN x | _ => false
  | .lit d => fun c e => match e with | .Constant k _ _ => cmpC d k | _ => false
  | .glob g => fun c e => match e with | .Name x _ => glbB c.sc x && plainN x && (match G.gl[g]? with | some p => decide (p.1 = x) | none => false) | _ => false
  | .bin op a b => fun c e => match e with | .BinOp l o r _ => decide (o = bOp op) && cmpE G a c l && cmpE G b c r | _ => false
  | .neg a => fun c e => match e with | .UnaryOp .USub x _ => cmpE G a c x | _ => false
  | .nott a => fun c e => match e with | .UnaryOp .Not x _ => cmpE G a c x | _ => false
  | .band es => fun c e => match e with | .BoolOp .And vs _ => cmpEs G es c vs | _ => false
  | .bor es => fun c e => match e with | .BoolOp .Or vs _ => cmpEs G es c vs | _ => false
  | .ite t a b => fun c e => match e with | .IfExp x y z _ => cmpE G t c x && cmpE G a c y && cmpE G b c z | _ => false
  | .cmp op a b => fun c e => match e with | .Compare l [o] [r] _ => decide (o = cOp op) && !behindInMarks o r && cmpE G a c l && cmpE G b c r | _ => false
  | .chain o1 o2 a b d => fun c e => match e with | .Compare l [p1, p2] [r, s] _ => decide (p1 = cOp o1) && decide (p2 = cOp o2) && !lastMarks [p1, p2] [r, s] && cmpE G a c l && cmpE G b c r && cmpE G d c s | _ => false
  | .tup as => fun c e => match e with | .Tuple es _ _ => cmpAs G as c es | _ => false
  | .lst as => fun c e => match e with | .List es _ => cmpAs G as c es | _ => false
  | .idx a i => fun c e => match e with | .Subscript v s _ => !isSlice s && cmpE G a c v && cmpE G i c s | _ => false
  | .slc a lo hi => fun c e => match e with | .Subscript v (.Slice l h none _) _ => cmpE G a c v && cmpO G lo c l && cmpO G hi c h | _ => false
  | .fld a cl k => fun c e => match e with | .Attribute v f _ => decide ((G.lay.getD cl [])[k]? = some f) && (G.cn[cl]?).isSome && notSuper v && cmpE G a c v | _ => false
  | .call f as => fun c e => match e with
    | .Call (.Name x _) args [] _ => fnB G f x && glbB c.sc x && plainN x && cmpAs G as c args
    | .Call (.Attribute (.Name x _) m apos) args [] pos => statB G f x m && glbB c.sc x && plainN x && (apos.endLine == pos.line) && decide (args.length < 30) && !args.isEmpty && cmpAs G as c args
    | .Call (.Name x _) args (k :: kws) _ => fnKB G f x args.length ((k :: kws).map (·.arg)) && glbB c.sc x && plainN x && args.all noStar && cmpAs G as c (args ++ (k :: kws).map (·.value))
    | _ => false
  | .meth cl f o as => fun c e => match e with
    | .Call (.Attribute v m apos) args [] pos => methB G cl f m && notSuper v && (apos.endLine == pos.line) && decide (args.length < 30) && cmpA G o c v && cmpAs G as c args
    | .Call (.Attribute v m apos) args (k :: kws) pos => methKB G cl f m (args.length + 1) ((k :: kws).map (·.arg)) && notSuper v && (apos.endLine == pos.line) && decide (args.length + (k :: kws).length + 1 < 30) && cmpA G o c v && args.all noStar && cmpAs G as c (args ++ (k :: kws).map (·.value))
    | _ => false
  | .make cl f as => fun c e => match e with | .Call (.Name x _) args [] _ => initB G cl f x && glbB c.sc x && plainN x && cmpAs G as c args | _ => false
  | .bi b as => fun c e => match e with | .Call (.Name x _) (y :: args) [] _ => decide (x = bName b) && glbB c.sc x && cmpAs G as c (y :: args) | _ => false
  | .mi m o as => fun c e => match e with | .Call (.Attribute v x apos) [y] [] pos => decide (x = mName m) && notSuper v && (apos.endLine == pos.line) && cmpA G o c v && cmpAs G as c [y] | _ => false
  | .isi t a => fun c e => match e with | .Call (.Name x _) [y, .Name z _] [] _ => decide (x = ("isinstance" : Str)) && glbB c.sc x && glbB c.sc z && plainN z && tnName G t z && noStar y && cmpA G a c y | _ => false
  | .nset a => fun c e => match e with | .Call (.Name x _) [.Call (.Name y _) [z] [] _] [] _ => decide (x = ("len" : Str)) && decide (y = ("set" : Str)) && glbB c.sc x && glbB c.sc y && noStar z && cmpA G a c z | _ => false
  | .makeS cl f a => fun c e => match e with | .Call (.Name x _) [.Starred y _] [] _ => initSB G cl f x && glbB c.sc x && plainN x && cmpA G a c y | _ => false
  | .dun op cl f a b => fun c e => match e with | .BinOp l o r _ => decide (o = bOp op) && dunB G op cl f && cmpA G a c l && cmpA G b c r | _ => false
  | .lrng a => fun c e => match e with | .Call (.Name x _) [.Call (.Name y _) [z] [] _] [] _ => decide (x = ("list" : Str)) && decide (y = ("range" : Str)) && glbB c.sc x && glbB c.sc y && noStar z && cmpA G a c z | _ => false
  | .lrng3 as => fun c e => match e with | .Call (.Name x _) [.Call (.Name y _) (u :: us) [] _] [] _ => decide (x = ("list" : Str)) && decide (y = ("range" : Str)) && glbB c.sc x && glbB c.sc y && cmpAs G as c (u :: us) | _ => false
  | .lenO cl f a => fun c e => match e with | .Call (.Name x _) [y] [] _ => decide (x = ("len" : Str)) && lenB G cl f && glbB c.sc x && noStar y && cmpA G a c y | _ => false
  | .pop i a => fun c e => match e with | .Call (.Attribute (.Name x _) m apos) [y] [] pos => decide (m = ("pop" : Str)) && decide (c.N[i]? = some x) && visB c.sc x && plainN x && (apos.endLine == pos.line) && noStar y && cmpA G a c y | _ => false
  | .rev a => fun c e => match e with | .Subscript v (.Slice none none (some (.UnaryOp .USub (.Constant (.int 1) _ _) _)) _) _ => cmpA G a c v | _ => false
  | .dnew => fun _ e => match e with | .Dict [] [] _ => true | _ => false
  | .cget g a j => fun c e => match e with | .Call (.Attribute (.Name x _) m apos) [y, .Constant (.int i) _ _] [] pos => decide (m = ("get" : Str)) && decide (((G.tb[g]?).getD ("", [])).1 = x) && (G.tb[g]?).isSome && decide (i = j) && glbB c.sc x && plainN x && (apos.endLine == pos.line) && noStar y && cmpA G a c y | _ => false
  | .strO cl f a => fun c e => match e with
    | .Call (.Name x _) [y] [] _ => decide (x = ("str" : Str)) && strB G cl f && glbB c.sc x && noStar y && cmpA G a c y
    | .JoinedStr [.FormattedValue y k none _] _ => decide (k = -1) && strB G cl f && cmpA G a c y
    | _ => false
  | .fst es => fun c e => match e with | .JoinedStr vs _ => fstB vs && cmpJ G es c vs | _ => false
  | .makeV cl f as => fun c e => match e with | .Call (.Name x _) (y :: args) [] _ => initSB G cl f x && glbB c.sc x && plainN x && cmpAs G as c (y :: args) | _ => false
  | .lc elt tg it ifs own => fun c e => match e with
    | .ListComp x [⟨t, i, fs, as⟩] scope _ => decide (as = 0) && blkC c.N c.sc scope (ownP c own) && cmpI G it c t i && cmpT (blkS c scope) tg t && cmpIf G ifs (blkS c scope) fs && cmpA G elt (blkS c scope) x && (tgSl tg).all own.contains
    | _ => false
def cmpJ (G : Gt) : List E → Cs → List Expr → Bool
  | [] => fun c es => es.isEmpty
  | x :: xs => fun c es => match es with
    | .FormattedValue v k none _ :: r => decide (k = -1) && cmpE G x c v && cmpJ G xs c r
    | .Constant k n p :: r => isTxt x && cmpE G x c (.Constant k n p) && cmpJ G xs c r
    | _ => false
def cmpEs (G : Gt) : List E → Cs → List Expr → Bool
  | [] => fun c es => es.isEmpty
  | x :: xs => fun c es => match es with | e :: r => cmpE G x c e && cmpEs G xs c r | [] => false
def cmpO (G : Gt) : List E → Cs → Option Expr → Bool
  | [] => fun c o => o.isNone
  | x :: xs => fun c o => match o with | some e => xs.isEmpty && cmpE G x c e | none => false
def cmpIf (G : Gt) : List E → Cs → List Expr → Bool
  | [] => fun c es => es.isEmpty
  | x :: xs => fun c es => match es with | [e] => xs.isEmpty && cmpE G x c e | _ => false
def cmpA (G : Gt) : A → Cs → Expr → Bool
  | .v e => cmpE G e
  | .p e => cmpE G e
def cmpAs (G : Gt) : List A → Cs → List Expr → Bool
  | [] => fun c es => es.isEmpty
  | x :: xs => fun c es => match es with | e :: r => noStar e && cmpA G x c e && cmpAs G xs c r | [] => false
def cmpI (G : Gt) : Wk → Cs → Expr → Expr → Bool
  | .it a => fun c _ e => notSet e && cmpA G a c e
  | .rng a => fun c _ e => match e with | .Call (.Name x _) [y] [] _ => decide (x = ("range" : Str)) && glbB c.sc x && noStar y && cmpA G a c y | _ => false
  | .rng2 a b => fun c _ e => match e with | .Call (.Name x _) [y, z] [] _ => decide (x = ("range" : Str)) && glbB c.sc x && noStar y && noStar z && cmpA G a c y && cmpA G b c z | _ => false
  | .enum a => fun c t e => match t, e with | .Tuple _ _ _, .Call (.Name x _) [y] [] _ => decide (x = ("enumerate" : Str)) && glbB c.sc x && noStar y && cmpA G a c y | _, _ => false
  | .zip a b => fun c t e => match t, e with | .Tuple _ _ _, .Call (.Name x _) [y, z] [] _ => decide (x = ("zip" : Str)) && glbB c.sc x && noStar y && noStar z && cmpA G a c y && cmpA G b c z | _, _ => false
end
end PV

/-! PV: what matches is what the small language says: expressions. -/
namespace PV
open PySem L2

/-! ### the text's nodes -/
theorem star_cons {e : Expr} {es : List Expr} {env : Env} (h : noStar e = true) : starEach (e :: es) env = (false, eval e env) :: starEach es env := by
  cases e <;> first
    | rfl
    | cases h
theorem star_none {env : Env} {pos : Pos} : ∀ {es : List Expr}, (∀ e ∈ es, noStar e = true) → (backTo pos (starEach es env)).any (·.1) = false
  | [], _ => rfl
  | e :: es, h => by
    rw [star_cons (h e List.mem_cons_self)]
    exact star_none fun x hx => h x (List.mem_cons_of_mem _ hx)
theorem star_all {env : Env} {pos : Pos} : ∀ {es : List Expr}, (∀ e ∈ es, noStar e = true) → (backTo pos (starEach es env)).all (!·.1) = true
  | [], _ => rfl
  | e :: es, h => by
    rw [star_cons (h e List.mem_cons_self)]
    exact star_all fun x hx => h x (List.mem_cons_of_mem _ hx)
theorem base_eq {o : Expr} {n : Str} {env : Env} {t : Sem Value} (h : notSuper o = true) : attributeBase o n env t = t := by
  cases o <;> first
    | rfl
    | skip
  rename_i f args kws pos
  cases f <;> first
    | rfl
    | skip
  cases args <;> first
    | rfl
    | skip
  cases kws <;> first
    | rfl
    | cases h
theorem meth_eval {o : Expr} {m : Str} {apos pos : Pos} {args : List Expr} {env : Env} (hs : notSuper o = true) (ha : ∀ e ∈ args, noStar e = true) (hn : args.length < 30) (hl : (apos.endLine == pos.line) = true) :
    eval (.Call (.Attribute o m apos) args [] pos) env = (do
      let ov ← eval o env
      standAt apos.atName
      let (f, first) ← holding [ov] (getMethod ov m (do return (← importBound o env).getD true))
      callWith pos f first (backTo pos (starEach args env)) (backToKw pos (keywordEach [] env))) := by
  have hf : methodCallForm (args.length + ([] : List Keyword).length) (backTo pos (starEach args env)) (backToKw pos (keywordEach [] env)) = true := by
    unfold methodCallForm
    rw [star_all ha]
    have hk : backToKw pos (keywordEach [] env) = [] := rfl
    rw [hk]
    simp
    exact hn
  have hp : methodCallPos true o env apos pos = pure pos := by
    unfold methodCallPos
    rw [hl]
    rfl
  rw [arm_eval_Call, base_eq hs]
  unfold methodCall
  rw [hf, hp]
  rfl

section
variable {X : Cx} {k : Nat} {f C : Addr} {sp : Sp} {x m : Str} {p pos apos : Pos} {e o : Expr} {es : List Expr} {ta : TE} {t : TA}
/-- the callee runs -/
theorem run_fnG {pins : List (Addr × Obj)} {σ : L2.St} {H : Hp} {s : Shared} {Q : VK} {us : List Value} {vs : List V} (F : FnG X.prog X.w X.K X.mg X.base CX0 k f sp) (hr : Room k X.A) (gd : X.A.guards = some []) (I : Inv X pins σ H s) (r : Vals vs us) (h : sp vs H Q E0) :
    codeAny (model X.prog X.w) X.A (.call (.ref f) ⟨us, []⟩) (fun z s2 => match z with | .ok (.ret v) => EP X pins σ Q v s2 | .ok _ => False | .error e => X.xe e s2) s := by
  refine codeAny_mono (F X.A X.stack s H us vs Q E0 hr gd I.env0 r h) ?_
  rintro (e | fl) s2 hq
  · exact hq.elim
  · cases fl <;> first
      | exact I.after hq
      | exact hq.elim
theorem guards_make {A : Around} {us : List Value} {kw : List (Str × Value)} : (A.under (.builtin "type.__call__" ⟨.ref C :: us, kw⟩)).guards = A.guards := by
  first | rfl | (simp [Around.under, Code.guards, pushGuards, guardIds]; done) | (cases h : A.guards <;> simp [Around.under, Code.guards, pushGuards, guardIds, h])
theorem run_makeG {pins : List (Addr × Obj)} {σ : L2.St} {H : Hp} {s : Shared} {Q : VK} {us : List Value} {vs : List V} (M : Mk X.K C f) (F : FnG X.prog X.w X.K X.mg X.base CX0 k f sp) (hr : Room (k + 1) X.A) (gd : X.A.guards = some []) (I : Inv X pins σ H s) (r : Vals vs us)
    (h : ∀ x dx, H x = none → H dx = none → dx ≠ x → sp (V.ref x :: vs) (upd (upd H dx (.own x)) x (.ins C dx [])) (fun v H2 => v = .non ∧ Q (.ref x) H2) E0) : wpAny (model X.prog X.w) X.A (call (.ref C) us) (EP X pins σ Q) X.xe s := by
  have want := h (s.heap.objs.size + 1) s.heap.objs.size (I.hok.fresh (Nat.le_succ _)) (I.hok.fresh (Nat.le_refl _)) (Nat.ne_of_lt (Nat.lt_succ_self _))
  have J := Inv.made (C := C) I
  have go := F _ X.stack _ _ (Value.ref (s.heap.objs.size + 1) :: us) (V.ref (s.heap.objs.size + 1) :: vs) _ _ (hr.make C us []) (guards_make.trans gd) (J.env0.make C us []) (.cons rfl r) want
  refine wpAny_call (make_map (f := f) I.kIn M.makes M.init (eq_of_beq M.fn) (codeAny_mono go ?_))
  rintro (e | fl) s2 hq
  · exact hq.elim
  · cases fl with
    | ret u =>
      obtain ⟨v, H3, J3, rv, rfl, q3⟩ := J.after hq
      exact ⟨rv, ⟨V.ref (s.heap.objs.size + 1), H3, J3, rfl, q3⟩⟩
    | _ => exact hq.elim
theorem pe_callA0 (F : FnG X.prog X.w X.K X.mg X.base CX0 k f sp) (hr : Room k X.A) (gd : X.A.guards = some []) (hg : Gl X x) (hm : X.mg x = some (.ref f)) (hk : PySem.W.keepIn X.K (.ref f) = true)
    (hd : (x == ("__debug__" : Str)) = false) : PE X (.Call (.Name x p) [] [] pos) (fun σ H Q => tNil σ H fun vs H1 => sp vs H1 Q E0) := by
  constructor
  intro pins s σ H Q I h
  refine wpAny_Call_Name_kw (ld_glob I hg hm ?_ hd)
  exact PySem.W.callWith_K0 I.kIn hk (wpAny_call (run_fnG (us := []) F hr gd I .nil h))
theorem pe_makeA0 (M : Mk X.K C f) (F : FnG X.prog X.w X.K X.mg X.base CX0 k f sp) (hr : Room (k + 1) X.A) (gd : X.A.guards = some []) (hg : Gl X x) (hm : X.mg x = some (.ref C)) (hd : (x == ("__debug__" : Str)) = false) :
    PE X (.Call (.Name x p) [] [] pos) (StX.tMakeR C sp E0 tNil) := by
  constructor
  intro pins s σ H Q I h
  refine wpAny_Call_Name_kw (ld_glob I hg hm ?_ hd)
  exact PySem.W.callWith_K0 I.kIn M.kp (run_makeG (us := []) M F hr gd I .nil h)
theorem pe_methA0 (he : PE X o ta) (c : Cls X.K C) (hm : Meth X.K C m f) (F : FnG X.prog X.w X.K X.mg X.base CX0 k f sp) (hr : Room k X.A) (gd : X.A.guards = some []) (hs : notSuper o = true) (hl : (apos.endLine == pos.line) = true) :
    PE X (.Call (.Attribute o m apos) [] [] pos) (tMethR C m sp E0 ta tNil) := by
  constructor
  intro pins s σ H Q I h
  refine PySem.W.methodCall_KW (thn (he.run pins s σ H _ I h) ?_) (meth_eval hs (by simp) (by decide) hl)
  rintro u s1 ⟨y, H1, I1, rx, a, dx, fs, rfl, ea, l, q⟩
  obtain rfl : u = Value.ref a := rx
  refine getmeth_ok I1 ea c hm l ?_
  exact PySem.W.callWith_K0 (first := [.ref a]) I1.kIn hm.kp (wpAny_call (run_fnG (us := [.ref a]) (vs := [.ref a]) F hr gd I1 (.cons rfl .nil) q))
theorem pe_callA (F : FnG X.prog X.w X.K X.mg X.base CX0 k f sp) (hr : Room k X.A) (gd : X.A.guards = some []) (hg : Gl X x) (hm : X.mg x = some (.ref f)) (hk : PySem.W.keepIn X.K (.ref f) = true) (ha : PA X (e :: es) t) (hn : ∀ y ∈ e :: es, noStar y = true)
    (hd : (x == ("__debug__" : Str)) = false) : PE X (.Call (.Name x p) (e :: es) [] pos) (fun σ H Q => t σ H fun vs H1 => sp vs H1 Q E0) := by
  constructor
  intro pins s σ H Q I h
  refine wpAny_Call_Name_kw (ld_glob I hg hm ?_ hd)
  have key : ∀ us s1, AP X pins σ (fun vs H1 => sp vs H1 Q E0) us s1 → X.K.In s1.heap ∧ wpAny (model X.prog X.w) X.A (call (.ref f) ([] ++ us)) (EP X pins σ Q) X.xe s1 := by
    rintro us s1 ⟨vs, H1, I1, r, q⟩
    exact ⟨I1.kIn, wpAny_call (run_fnG F hr gd I1 r q)⟩
  exact PySem.W.callWith_K (h₀ := X.base) I.ok.mod.kin hk (thn (ha.run pos pins s σ H _ I h) key) (star_cons (hn e List.mem_cons_self)) (star_none fun y hy => hn y (List.mem_cons_of_mem _ hy))
theorem pe_makeA (M : Mk X.K C f) (F : FnG X.prog X.w X.K X.mg X.base CX0 k f sp) (hr : Room (k + 1) X.A) (gd : X.A.guards = some []) (hg : Gl X x) (hm : X.mg x = some (.ref C)) (ha : PA X (e :: es) t) (hn : ∀ y ∈ e :: es, noStar y = true) (hd : (x == ("__debug__" : Str)) = false) :
    PE X (.Call (.Name x p) (e :: es) [] pos) (StX.tMakeR C sp E0 t) := by
  constructor
  intro pins s σ H Q I h
  refine wpAny_Call_Name_kw (ld_glob I hg hm ?_ hd)
  have key : ∀ us s1, AP X pins σ (fun vs H1 => ∀ x dx, H1 x = none → H1 dx = none → dx ≠ x → sp (V.ref x :: vs) (upd (upd H1 dx (.own x)) x (.ins C dx [])) (fun v H2 => v = .non ∧ Q (.ref x) H2) E0) us s1 →
      X.K.In s1.heap ∧ wpAny (model X.prog X.w) X.A (call (.ref C) ([] ++ us)) (EP X pins σ Q) X.xe s1 := by
    rintro us s1 ⟨vs, H1, I1, r, q⟩
    exact ⟨I1.kIn, run_makeG M F hr gd I1 r q⟩
  exact PySem.W.callWith_K (h₀ := X.base) I.ok.mod.kin M.kp (thn (ha.run pos pins s σ H _ I h) key) (star_cons (hn e List.mem_cons_self)) (star_none fun y hy => hn y (List.mem_cons_of_mem _ hy))
theorem pe_methA (he : PE X o ta) (c : Cls X.K C) (hm : Meth X.K C m f) (F : FnG X.prog X.w X.K X.mg X.base CX0 k f sp) (hr : Room k X.A) (gd : X.A.guards = some []) (ha : PA X (e :: es) t) (hn : ∀ y ∈ e :: es, noStar y = true) (hs : notSuper o = true) (h30 : (e :: es).length < 30) (hl : (apos.endLine == pos.line) = true) :
    PE X (.Call (.Attribute o m apos) (e :: es) [] pos) (tMethR C m sp E0 ta t) := by
  constructor
  intro pins s σ H Q I h
  refine PySem.W.methodCall_KW (thn (he.run pins s σ H _ I h) ?_) (meth_eval hs hn h30 hl)
  rintro u s1 ⟨y, H1, I1, rx, a, dx, fs, rfl, ea, l, q⟩
  obtain rfl : u = Value.ref a := rx
  refine getmeth_ok I1 ea c hm l ?_
  have key : ∀ us s2, AP X pins σ (fun vs H2 => sp (.ref a :: vs) H2 Q E0) us s2 → X.K.In s2.heap ∧ wpAny (model X.prog X.w) X.A (call (.ref f) ([.ref a] ++ us)) (EP X pins σ Q) X.xe s2 := by
    rintro us s2 ⟨vs, H2, I2, r, q2⟩
    exact ⟨I2.kIn, wpAny_call (run_fnG (us := .ref a :: us) (vs := .ref a :: vs) F hr gd I2 (.cons rfl r) q2)⟩
  exact PySem.W.callWith_K (first := [.ref a]) (h₀ := X.base) I.ok.mod.kin hm.kp (thn (ha.run pos pins s1 σ H1 _ I1 q) key) (star_cons (hn e List.mem_cons_self)) (star_none fun y hy => hn y (List.mem_cons_of_mem _ hy))
/-- a built-in function or type, called by name -/
theorem pe_bltA {r : RN} {b : Bi} (hc : CallR X (bVal b) r) (hg : Gl X (bName b)) (hm : X.mg (bName b) = none) (ha : PA X (e :: es) t) (hn : ∀ y ∈ e :: es, noStar y = true) : PE X (.Call (.Name (bName b) p) (e :: es) [] pos) (tCB r t) := by
  have hs : starEach (e :: es) X.env = (false, eval e X.env) :: starEach es X.env := star_cons (hn e List.mem_cons_self)
  have hp : (backTo pos (starEach es X.env)).any (·.1) = false := star_none fun y hy => hn y (List.mem_cons_of_mem _ hy)
  cases b <;> first
    | exact pe_callB hc hg hm (by decide +kernel) ha (by decide) (by decide) hs hp
    | exact pe_callTy hc hg hm (by decide +kernel) ha (by decide) (by decide) hs hp
theorem pt_ite {c a b : Expr} {tc ta tb : TT} (hc : PT X c tc) (ha : PT X a ta) (hb : PT X b tb) : PT X (.IfExp c a b pos) (fun σ H Q => tc σ H fun k H1 => if k = true then ta σ H1 Q else tb σ H1 Q) := by
  constructor
  intro pins s σ H Q I h
  show wpAny _ _ (do if ← isTrue c X.env (eval c X.env) then isTrue a X.env (eval a X.env) else isTrue b X.env (eval b X.env)) _ _ _
  refine wpAny_bind (thn (hc.run pins s σ H _ I h) ?_)
  rintro d s1 ⟨H1, I1, q1⟩
  cases d with
  | true => exact ha.run pins s1 σ H1 Q I1 q1
  | false => exact hb.run pins s1 σ H1 Q I1 q1
end

section
variable {S : Sg} {G : Gt}
theorem RL.callF {t : TA} {w : Ev → (List RR → Ev → Prop) → Prop} {f : Nat} {i : Fi} (h : RL S t w) (hi : G.fi[f]? = some i) :
    RS S (fun σ H Q => t σ H fun vs H1 => spOf S i.io (G.sp f) vs H1 Q E0) (fun env Q => w env fun rs e1 => callK G f rs e1 Q) := by
  intro Z F env σ H Q Q' s hw k
  refine h Z F env σ H _ _ s hw fun Z1 F1 H1 vs rs e1 q1 le s1 i1 ok => ?_
  unfold callK at q1
  rw [hi] at q1
  obtain ⟨ho, q1⟩ := q1
  obtain ⟨ds, g, q1⟩ := rdKs_some q1
  exact call_ok i1 le ok ho g q1 fun F2 H2 v r e2 q e i2 rr => k F2 H2 v r e2 q (s1.trans e) i2 rr
/-- the receiver, then the arguments -/
theorem RL.methF {to : TE} {wo : WR} {t : TA} {w : Ev → (List RR → Ev → Prop) → Prop} {f c : Nat} {m : Str} {i : Fi} (ho : RS S to wo) (h : RL S t w) (hi : G.fi[f]? = some i) (hm : m ∉ S.lay c) :
    RS S (tMethR (S.ca c) m (spOf S i.io (G.sp f)) E0 to t) (fun env Q => wo env fun r e1 => rdK e1 r fun d => isObj c d = true ∧ w e1 fun rs e2 => callK G f (r :: rs) e2 Q) := by
  intro Z F env σ H Q Q' s hw k
  refine ho Z F env σ H _ _ s hw fun F1 H1 x r1 e1 q1 s1 i1 rr1 => ?_
  obtain ⟨d1, g1, hob, q1'⟩ := rdK_some q1
  clear q1
  cases d1 with
  | obj c' ds1 =>
    have ec : c' = c := by simpa [isObj] using hob
    subst ec
    obtain ⟨a, dx, fs, rfl, h1, h2, h3⟩ := (now_rr i1 rr1 g1).obj i1.same
    have hl : fs.lookup m = none := by
      have key : ∀ fs : List (Str × V), m ∉ fs.map (·.1) → fs.lookup m = none := by
        intro fs
        induction fs with
        | nil => intro _; rfl
        | cons p fs ih =>
          intro h
          simp at h
          obtain ⟨n, v⟩ := p
          have ne : (m == n) = false := beq_eq_false_iff_ne.mpr h.1
          simp only [List.lookup, ne]
          exact ih (by simpa using h.2)
      refine key fs fun z => hm ?_
      rw [h2] at z
      exact List.mem_of_mem_take z
    refine ⟨a, dx, fs, rfl, h1, hl, ?_⟩
    refine h _ F1 e1 σ H1 _ _ (zx_sr i1 rr1) q1' fun Z2 F2 H2 vs rs e2 q2 le s2 i2 ok => ?_
    unfold callK at q2
    rw [hi] at q2
    obtain ⟨ho2, q2⟩ := q2
    obtain ⟨ds, g, q2⟩ := rdKs_some q2
    have ok2 : RsOk S Z Z2 F2 σ (r1 :: rs) (V.ref a :: vs) := by
      refine ⟨V.ref a, vs, rfl, rsok_weak (zx_le rr1) ok, ?_⟩
      cases r1 with
      | val d => exact Rep.mono s2 _ _ rr1
      | sl i => exact rr1.2
      | fr d =>
        obtain ⟨b, o, e, g2, g3, g4, g5, g6⟩ := rr1
        cases e
        have hz : Zx Z H1 (.fr d) (.ref a) a = some o := by
          show (if a = a then H1 a else Z a) = some o
          rw [if_pos rfl]; exact g2
        refine ⟨a, o, rfl, le a o hz, g5, g3.mono s2, fun m => ?_⟩
        obtain ⟨b, e, hb⟩ := fr_new ok _ m
        cases e
        rw [hz] at hb; cases hb
    exact call_ok i2 (fun a o h => le a o (zx_le rr1 a o h)) ok2 ho2 g q2 fun F3 H3 v r e3 q e i3 rr => k F3 H3 v r e3 q ((s1.trans s2).trans e) i3 rr
  | _ => simp [isObj] at hob
/-- one more slot, that owns -/
theorem sr_push {Z F H : Hp} {env : Ev} {σ : L2.St} {d : D} {v : V} (s : SR S Z F env σ H) (m : Mine S Z F H σ env d v) : SR S Z F (env ++ [.own d]) (σ ++ [some v]) H := by
  obtain ⟨a, o, rfl, ha, hc, hf, hz, hn⟩ := m
  have lt : ∀ {i : Nat} {x : Sl}, (env ++ [.own d])[i]? = some x → (i < env.length ∧ env[i]? = some x) ∨ (i = env.length ∧ x = .own d) := fun {i x} h => by
    by_cases hi : i < env.length
    · rw [List.getElem?_append_left hi] at h; exact .inl ⟨hi, h⟩
    · rw [List.getElem?_append_right (by omega)] at h
      have : i - env.length = 0 := by
        have := (List.getElem?_eq_some_iff.mp h).1
        simp at this; omega
      rw [this] at h
      simp at h
      exact .inr ⟨by omega, h.symm⟩
  have sl : ∀ {i : Nat}, i < env.length → (σ ++ [some (V.ref a)])[i]? = σ[i]? := fun {i} hi => List.getElem?_append_left (by rw [s.len]; exact hi)
  have sn : (σ ++ [some (V.ref a)])[env.length]? = some (some (.ref a)) := by rw [← s.len]; simp
  refine ⟨s.same, s.prot, by simp [s.len], fun i e h => ?_, fun i e h => ?_, fun i j e e' b h1 h2 h3 h4 => ?_⟩
  · rcases lt h with ⟨h1, h2⟩ | ⟨_, h2⟩
    · rw [sl h1]; exact s.val i e h2
    · cases h2
  · rcases lt h with ⟨h1, h2⟩ | ⟨h1, h2⟩
    · rw [sl h1]; exact s.own i e h2
    · cases h2
      rw [h1]
      exact ⟨a, o, sn, ha, hc, hf, hz⟩
  · rcases lt h1 with ⟨g1, g2⟩ | ⟨g1, g2⟩
    · rcases lt h2 with ⟨g3, g4⟩ | ⟨g3, g4⟩
      · rw [sl g1] at h3; rw [sl g3] at h4
        exact s.sep i j e e' b g2 g4 h3 h4
      · rw [sl g1] at h3; rw [g3, sn] at h4; cases h4
        exact absurd h3 (hn i e g2)
    · rcases lt h2 with ⟨g3, g4⟩ | ⟨g3, g4⟩
      · rw [sl g3] at h4; rw [g1, sn] at h3; cases h3
        exact absurd h4 (hn j e' g4)
      · rw [g1, g3]
theorem sr_pop {Z F H : Hp} {env : Ev} {σ : L2.St} {d : D} {v : V} (s : SR S Z F (env ++ [.own d]) (σ ++ [some v]) H) : SR S Z F env σ H ∧ Mine S Z F H σ env d v := by
  have len : σ.length = env.length := by have := s.len; simpa using this
  have up : ∀ {i : Nat} {x : Sl}, env[i]? = some x → (env ++ [.own d])[i]? = some x ∧ (σ ++ [some v])[i]? = σ[i]? := fun {i x} h => by
    have hi : i < env.length := (List.getElem?_eq_some_iff.mp h).1
    exact ⟨by rw [List.getElem?_append_left hi]; exact h, List.getElem?_append_left (by rw [len]; exact hi)⟩
  have last : (env ++ [.own d])[env.length]? = some (.own d) := by simp
  have lastv : (σ ++ [some v])[env.length]? = some (some v) := by rw [← len]; simp
  refine ⟨⟨s.same, s.prot, len, fun i e h => ?_, fun i e h => ?_, fun i j e e' b h1 h2 h3 h4 => ?_⟩, ?_⟩
  · rw [← (up h).2]; exact s.val i e (up h).1
  · rw [← (up h).2]; exact s.own i e (up h).1
  · exact s.sep i j e e' b (up h1).1 (up h2).1 (by rw [(up h1).2]; exact h3) (by rw [(up h2).2]; exact h4)
  · obtain ⟨a, o, h1, h2, h3, h4, h5⟩ := s.own _ d last
    rw [lastv] at h1; cases h1
    refine ⟨a, o, rfl, h2, h3, h4, h5, fun i e h z => ?_⟩
    have := s.sep i env.length e d a (up h).1 last (by rw [(up h).2]; exact z) lastv
    have hi : i < env.length := (List.getElem?_eq_some_iff.mp h).1
    omega
theorem rsok_push {Z Z1 F : Hp} {σ : L2.St} {w : Option V} : ∀ {rs : List RR} {vs : List V}, RsOk S Z Z1 F σ rs vs → RsOk S Z Z1 F (σ ++ [w]) rs vs
  | [], _, h => h
  | r :: rs, _, ⟨v, us, e, h, h2⟩ => by
    refine ⟨v, us, e, rsok_push h, ?_⟩
    cases r with
    | val d => exact h2
    | fr d => exact h2
    | sl i =>
      have h2 : σ[i]? = some (some v) := h2
      have hi : i < σ.length := (List.getElem?_eq_some_iff.mp h2).1
      show (σ ++ [w])[i]? = _
      rw [List.getElem?_append_left hi]; exact h2
theorem RL.makeF {t : TA} {w : Ev → (List RR → Ev → Prop) → Prop} {f c : Nat} {i : Fi} (h : RL S t w) (hi : G.fi[f]? = some i) :
    RS S (StX.tMakeR (S.ca c) (spOf S i.io (G.sp f)) E0 t) (fun env Q => w env fun rs e1 => makeK G c f rs e1 Q) := by
  intro Z F env σ H Q Q' s hw k
  refine h Z F env σ H _ _ s hw fun Z1 F1 H1 vs rs e1 q1 le s1 i1 ok => ?_
  intro x dx hx hdx ne
  unfold makeK callK at q1
  rw [hi] at q1
  obtain ⟨ho, q1⟩ := q1
  obtain ⟨ds, g, q1⟩ := rdKs_some q1
  -- the two new objects
  have i2 : SR S Z1 F1 e1 σ (upd H1 dx (.own x)) := sr_newH i1 hdx
  have hx2 : (upd H1 dx (.own x)) x = none := by rw [upd_ne (Ne.symm ne)]; exact hx
  have i3 : SR S Z1 F1 e1 σ (upd (upd H1 dx (.own x)) x (.ins (S.ca c) dx [])) := sr_newH i2 hx2
  have mine : Mine S Z1 F1 (upd (upd H1 dx (.own x)) x (.ins (S.ca c) dx [])) σ e1 (.obj c []) (.ref x) := mine_new i2 hx2 ⟨dx, [], rfl, by simp, rfl⟩
  have i4 := sr_push i3 mine
  have ok2 : RsOk S Z Z1 F1 (σ ++ [some (V.ref x)]) (.sl e1.length :: rs) (V.ref x :: vs) := by
    refine ⟨V.ref x, vs, rfl, rsok_push ok, ?_⟩
    show (σ ++ [some (V.ref x)])[e1.length]? = _
    rw [← i1.len]; simp
  refine call_ok (Q := fun r e2 => r = .val .non ∧ match e2.getLast? with
    | some (.own o) => Q (.fr o) e2.dropLast
    | _ => False) i4 le ok2 ho g q1 fun F2 H2 v r e2 q e i5 rr => ?_
  obtain ⟨rfl, q⟩ := q
  have hv : v = .non := rr
  refine ⟨hv, ?_⟩
  cases gl : e2.getLast? with
  | none => rw [gl] at q; exact False.elim q
  | some y =>
    rw [gl] at q
    cases y with
    | un => exact False.elim q
    | val d => exact False.elim q
    | own o =>
      have hne : e2 ≠ [] := by intro z; subst z; simp at gl
      have e2e : e2 = e2.dropLast ++ [.own o] := by
        have := List.dropLast_concat_getLast hne
        rw [List.getLast?_eq_some_getLast hne] at gl
        have ee : e2.getLast hne = .own o := Option.some.inj gl
        rw [ee] at this
        exact this.symm
      rw [e2e] at i5
      obtain ⟨i6, m6⟩ := sr_pop i5
      exact k F2 H2 (.ref x) (.fr o) e2.dropLast q (s1.trans e) i6 m6
end
end PV

/-! PV: further nodes: staticmethods, keywords, C(*xs), isinstance, methods of built-in types. -/
namespace PV
open PySem L2

section
variable {X : Cx} {k n : Nat} {f C q : Addr} {sp : Sp} {x m : Str} {p px pos apos spos : Pos} {e o : Expr} {es : List Expr} {kws : List Keyword} {ks : List Str} {te ta : TE} {t tk : TA}
/-- C.m(e, ..), m a staticmethod -/
theorem pe_statA (sm : SMet X.K C m q f) (F : FnG X.prog X.w X.K X.mg X.base CX0 k f sp) (hr : Room k X.A) (gd : X.A.guards = some []) (hg : Gl X x) (hm : X.mg x = some (.ref C)) (ha : PA X (e :: es) t) (hn : ∀ y ∈ e :: es, noStar y = true) (h30 : (e :: es).length < 30)
    (hd : (x == ("__debug__" : Str)) = false) (hl : (apos.endLine == pos.line) = true) : PE X (.Call (.Attribute (.Name x px) m apos) (e :: es) [] pos) (fun σ H Q => t σ H fun vs H1 => sp vs H1 Q E0) := by
  constructor
  intro pins s σ H Q I h
  have hC : PE X (.Name x px) (tC (.ref C)) := pe_glob hg hm rfl hd
  have start : tC (.ref C) σ H (fun v H1 => v = .ref C ∧ t σ H1 fun vs H2 => sp vs H2 Q E0) := ⟨rfl, h⟩
  refine PySem.W.methodCall_KW (thn (hC.run pins s σ H _ I start) ?_) (meth_eval rfl hn h30 hl)
  rintro u s1 ⟨y, H1, I1, rx, rfl, q1⟩
  obtain rfl : u = Value.ref C := rx
  obtain ⟨rest, hrc⟩ := sm.rc
  refine PySem.W.method_cls I1.kIn sm.rd.ga (PySem.W.cls_bind I1.kIn sm.rd.rd sm.at_ (wpAny_call (PySem.W.sm_get (s := { s1 with toks := s1.toks + 1 }) I1.kIn hrc (PySem.W.handed_on rfl ?_))))
  have I2 : Inv X pins σ H1 { s1 with toks := s1.toks + 1 } := I1.tok _
  have key : ∀ us s2, AP X pins σ (fun vs H2 => sp vs H2 Q E0) us s2 → X.K.In s2.heap ∧ wpAny (model X.prog X.w) X.A (call (.ref f) ([] ++ us)) (EP X pins σ Q) X.xe s2 := by
    rintro us s2 ⟨vs, H2, I3, r, q2⟩
    exact ⟨I3.kIn, wpAny_call (run_fnG F hr gd I3 r q2)⟩
  exact PySem.W.callWith_K (first := []) (h₀ := X.base) I.ok.mod.kin sm.kp (thn (ha.run pos pins _ σ H1 _ I2 q1) key) (star_cons (hn e List.mem_cons_self)) (star_none fun y hy => hn y (List.mem_cons_of_mem _ hy))
/-- C(*e) -/
theorem pe_makeS (M : Mk X.K C f) (F : FnG X.prog X.w X.K X.mg X.base CX0 k f sp) (hr : Room (k + 1) X.A) (gd : X.A.guards = some []) (hg : Gl X x) (hm : X.mg x = some (.ref C)) (he : PE X e te) (hd : (x == ("__debug__" : Str)) = false) :
    PE X (.Call (.Name x p) [.Starred e spos] [] pos) (fun σ H Q => te σ H fun y H1 => ∃ a xs, y = V.ref a ∧ (SqT X.K H1 a xs ∨ SqL X.K H1 a xs) ∧ ∀ x dx, H1 x = none → H1 dx = none → dx ≠ x →
      sp (V.ref x :: xs) (upd (upd H1 dx (.own x)) x (.ins C dx [])) (fun v H2 => v = .non ∧ Q (.ref x) H2) E0) := by
  constructor
  intro pins s σ H Q I h
  refine wpAny_Call_Name_kw (ld_glob I hg hm ?_ hd)
  refine PySem.W.callWith_S (h₀ := X.base) I.ok.mod.kin M.kp (thn (he.run pins s σ H _ I h) ?_) rfl
  rintro v s1 ⟨y, H1, I1, ry, a, xs, rfl, hxs, q1⟩
  obtain rfl : v = Value.ref a := ry
  exact StX.star_any I1 hxs fun us s2 I2 rv => ⟨I2.kIn, run_makeG M F hr gd I2 rv q1⟩
/-- f(e, .., k = v, ..) -/
theorem run_fnRK {pins : List (Addr × Obj)} {σ : L2.St} {H : Hp} {s : Shared} {Q : VK} {us ws : List Value} {vs zs : List V} (F : FnRK X.prog X.w X.K X.mg X.base CX0 k f n ks sp) (hr : Room k X.A) (gd : X.A.guards = some []) (I : Inv X pins σ H s) (r : Vals vs us) (rz : Vals zs ws) (l1 : us.length = n) (l2 : ws.length = ks.length)
    (h : sp (vs ++ zs) H Q E0) : wpAny (model X.prog X.w) X.A (call (.ref f) us (ks.zip ws)) (EP X pins σ Q) X.xe s := by
  refine wpAny_call (codeAny_mono (F X.A X.stack s H us ws vs zs Q E0 hr gd I.env0 r rz l1 l2 h) ?_)
  intro r s' hq
  cases r with
  | error e => exact hq.elim
  | ok fl =>
    cases fl with
    | ret u => exact I.after hq
    | next => exact False.elim hq
    | brk => exact False.elim hq
    | cont => exact False.elim hq
end
def miId : Mi → String
  | .split => "str.split" | .join => "str.join" | .sindex => "str.index" | .tindex => "tuple.index" | .lindex => "list.index" | .cnt => "list.count"
def miTy : Mi → String
  | .split => "str" | .join => "str" | .sindex => "str" | .tindex => "tuple" | .lindex => "list" | .cnt => "list"
def rSplit : V → List V → Hp → VK → Prop := fun x xs H Q => ∃ a b, x = .str a ∧ xs = [.str b] ∧ (b.length == 0) = false ∧ a.length + 2 ≤ sizeLine ∧ rNewStrs (Txt.split a b) H Q
def rJoin (K : PySem.W.Frag) : V → List V → Hp → VK → Prop := fun x xs H Q => ∃ a p, ∃ ys : List Str, x = .str a ∧ xs = [.ref p] ∧ (SqL K H p (ys.map V.str) ∨ SqT K H p (ys.map V.str)) ∧ (ys.map (·.length)).sum + ys.length * a.length ≤ 16777216 ∧ Q (.str (Txt.join a ys)) H
def rSindex : V → List V → Hp → VK → Prop := fun x xs H Q => ∃ a b j, x = .str a ∧ xs = [.str b] ∧ Txt.index0 a b = some j ∧ Q (.int (j : Nat)) H
def rTindex (K : PySem.W.Frag) : V → List V → Hp → VK → Prop := fun x xs H Q => ∃ p, ∃ ys : List Str, ∃ z j, x = .ref p ∧ xs = [.str z] ∧ SqT K H p (ys.map V.str) ∧ ys[j]? = some z ∧ (∀ m, m < j → ys[m]? ≠ some z) ∧ Q (.int (j : Nat)) H
/-- how often y stands in a list of flat values -/
def rCnt (K : PySem.W.Frag) : V → List V → Hp → VK → Prop := fun x xs H Q => ∃ a ys y, x = .ref a ∧ xs = [y] ∧ SqL K H a ys ∧ flatV y = true ∧ ys.all flatV = true ∧ Q (.int (ys.countP fun z => eqV z y : Nat)) H
def miRd (K : PySem.W.Frag) : Mi → V → List V → Hp → VK → Prop
  | .split => rSplit | .join => rJoin K | .sindex => rSindex | .tindex => rTindex K | .lindex => rIndex K | .cnt => rCnt K
section
variable {X : Cx}
theorem mt_sindex (hc : X.calm = true) : MtR X "str.index" rSindex := by
  intro pins s σ H x xs v us Q I rx rs h
  obtain ⟨a, b, j, rfl, rfl, hj, q⟩ := h
  refine mt_indexX (W := fun _ _ _ _ => False) hc (fun u s' z => ?_) pins s σ H (.str a) [.str b] v us Q I rx rs ⟨a, b, rfl, rfl, fun k hk => ?_, fun hk => by rw [hj] at hk; cases hk⟩
  · obtain ⟨_, _, _, _, _, _, _, _, _, _, _, _, _, _, _, _, w⟩ := z
    exact w.elim
  · rw [hj] at hk; cases hk; exact q
theorem cnt_vals {y : V} : ∀ {ys : List V} {us : List Value}, Vals ys us → ys.all flatV = true → us.countP (eqU y) = ys.countP fun z => eqV z y
  | _, _, .nil, _ => rfl
  | z :: ys, u :: us, .cons r t, f => by
    rw [List.all_cons, Bool.and_eq_true] at f
    rw [List.countP_cons, List.countP_cons, cnt_vals t f.2, eqU_of r f.1]
theorem mt_cnt : MtR X "list.count" (rCnt X.K) := by
  intro pins s σ H x xs v us Q I rx rs h
  obtain ⟨a, ys, y, rfl, rfl, hs, fy, fys, q⟩ := h
  cases rx
  obtain ⟨u, rfl, ru⟩ := rs.one
  obtain ⟨its, rv, ⟨⟨cls, dd, data, sl⟩, n, ho, hc, hdn, hd⟩, hlen⟩ := I.list hs
  dsimp only at hc hd
  subst hc hd
  refine call_meets PySem.F.slot_list_count ⟨_, ho, rfl⟩ PySem.F.entry_list_count (PySem.F.args_list_count_2 _ _) (SeqAt.list_countAt a its.toArray n dd sl u (eqU y)) ⟨ho, fun w hw => mem_eqAt ru fy rv fys w (by simpa using hw), ?_⟩
  refine ⟨.int ((ys.countP fun z => eqV z y : Nat) : Int), H, I.tok _, ⟨s.toks, ?_⟩, q⟩
  rw [← cnt_vals rv fys]
theorem mi_ok (hc : X.calm = true) : ∀ m : Mi, MtR X (miId m) (miRd X.K m)
  | .split => mt_split | .join => mt_join | .sindex => mt_sindex hc | .tindex => mt_tup_index | .lindex => mt_index | .cnt => mt_cnt
/-- of that built-in type, without a dict -/
def tyM (K : PySem.W.Frag) (T : String) (x : V) (H : Hp) : Prop := tyV K T x H ∨ (T = "tuple" ∧ ∃ p o xs, x = .ref p ∧ H p = some (.frz o (.tup xs)) ∧ o.dict = none)
theorem tyM_is {pins : List (Addr × Obj)} {σ : L2.St} {H : Hp} {s : Shared} {T : String} {x : V} {v : Value} (I : Inv X pins σ H s) (r : RelV x v) (ty : tyM X.K T x H) :
    s.TypeIs v T ∧ ∀ a, v = .ref a → ∃ ob, s.heap.get? a = some ob ∧ ob.dict = none := by
  rcases ty with ty | ⟨rfl, p, o, xs, rfl, hp, hd⟩
  · exact tyV_is I r ty
  · cases r
    obtain ⟨ho, _, its, _, ⟨o2, ho2, hc, _⟩⟩ := (show ObjOk X.prog X.w H s.heap p (.frz o (.tup xs)) from I.hok p _ hp)
    rw [ho] at ho2; cases ho2
    exact ⟨⟨o, ho, hc⟩, fun a ea => by cases ea; exact ⟨o, ho, hd⟩⟩
def tBN (K : PySem.W.Frag) (T : String) (r : V → List V → Hp → VK → Prop) (to : TE) (t : TA) : TE := fun σ H Q => to σ H fun x H1 => tyM K T x H1 ∧ t σ H1 fun xs H2 => r x xs H2 Q
theorem pe_bn {o e : Expr} {to : TE} {t : TA} {apos cpos : Pos} {T id : String} {name : Str} {r : V → List V → Hp → VK → Prop} (pa : PlainAttrs T) (sl : Slot T name id) (ht : typeOf (.builtin id) = pure (.type "method_descriptor")) (hm : MtR X id r) (ho : PE X o to) (ha : PA X [e] t)
    (hn : noStar e = true) (hs : notSuper o = true) (hl : (apos.endLine == cpos.line) = true) : PE X (.Call (.Attribute o name apos) [e] [] cpos) (tBN X.K T r to t) := by
  have hst : starEach [e] X.env = (false, eval e X.env) :: starEach [] X.env := star_cons hn
  constructor
  intro pins s σ H Q I h
  refine wpAny_Call_method_late (base_eq hs) (by rw [hst]; rfl) hl rfl (thn (ho.run pins s σ H _ I h) ?_)
  rintro v s1 ⟨x, H1, I1, rv, ty, q1⟩
  obtain ⟨h1, h2⟩ := tyM_is I1 rv ty
  refine ⟨T, id, pa, sl, ht, h1, h2, ?_⟩
  have run := ha.run cpos pins s1 σ H1 _ I1 q1
  rw [hst] at run ⊢
  refine Calls.callWith_builtin rfl (Calls.evalArgs_plain (thn run ?_))
  rintro us s2 ⟨vs, H2, I2, r2, q2⟩
  exact hm pins s2 σ H2 x vs v us Q I2 rv r2 q2
theorem pe_mi {o e : Expr} {to : TE} {t : TA} {apos cpos : Pos} (hc : X.calm = true) (m : Mi) (ho : PE X o to) (ha : PA X [e] t) (hn : noStar e = true) (hs : notSuper o = true) (hl : (apos.endLine == cpos.line) = true) :
    PE X (.Call (.Attribute o (mName m) apos) [e] [] cpos) (tBN X.K (miTy m) (miRd X.K m) to t) := by
  have hm := mi_ok hc m
  cases m with
  | split => exact pe_bn PySem.F.plainAttrs_str PySem.F.slot_str_split PySem.F.type_str_split hm ho ha hn hs hl
  | join => exact pe_bn PySem.F.plainAttrs_str PySem.F.slot_str_join PySem.F.type_str_join hm ho ha hn hs hl
  | sindex => exact pe_bn PySem.F.plainAttrs_str PySem.F.slot_str_index PySem.F.type_str_index hm ho ha hn hs hl
  | tindex => exact pe_bn PySem.F.plainAttrs_tuple PySem.F.slot_tuple_index PySem.F.type_tuple_index hm ho ha hn hs hl
  | lindex => exact pe_bn PySem.F.plainAttrs_list PySem.F.slot_list_index PySem.F.type_list_index hm ho ha hn hs hl
  | cnt => exact pe_bn PySem.F.plainAttrs_list PySem.F.slot_list_count PySem.F.type_list_count hm ho ha hn hs hl
end
section
variable {S : Sg}
theorem mi_ty {Z F H : Hp} {env : Ev} {σ : L2.St} {d : D} {v : V} {m : Mi} (s : SR S Z F env σ H) (r : Rd S F H d v) (h : miT m d = true) : tyM S.K (miTy m) v H := by
  cases m <;> cases d <;> first
    | cases h
    | skip
  · rw [r.str]; exact .inl rfl
  · rw [r.str]; exact .inl rfl
  · rw [r.str]; exact .inl rfl
  · obtain ⟨a, ys, rfl, ⟨o, g1, g2⟩, _⟩ := r.tpn s.same
    exact .inr ⟨rfl, a, o, ys, rfl, g1, g2⟩
  · obtain ⟨a, ys, rfl, g1, _⟩ := r.lst s.same
    exact .inl (.inl ⟨rfl, ys, SqL.of g1⟩)
  · obtain ⟨a, ys, rfl, g1, _⟩ := r.lst s.same
    exact .inl (.inl ⟨rfl, ys, SqL.of g1⟩)
theorem index_str {K : PySem.W.Frag} {p : Addr} {zs : List Str} {z : Str} {j : Nat} {H : Hp} {Q : VK} (g : SqL K H p (zs.map V.str)) (h1 : zs[j]? = some z) (h2 : ∀ m, m < j → zs[m]? ≠ some z) (q : Q (.int (j : Nat)) H) : rIndex K (.ref p) [.str z] H Q := by
  refine ⟨p, zs.map V.str, .str z, j, .str z, rfl, rfl, g, rfl, ?_, by rw [List.getElem?_map, h1]; rfl, beq_self_eq_true z, fun m z' hm hz => ?_, q⟩
  · rw [List.all_map]; exact List.all_eq_true.mpr fun _ _ => rfl
  · rw [List.getElem?_map] at hz
    cases e : zs[m]? with
    | none => rw [e] at hz; cases hz
    | some y =>
      rw [e] at hz
      cases hz
      exact beq_eq_false_iff_ne.mpr fun w => h2 m hm (by rw [e, w])
theorem index_int {K : PySem.W.Frag} {p : Addr} {zs : List Int} {z : Int} {j : Nat} {H : Hp} {Q : VK} (g : SqL K H p (zs.map V.int)) (h1 : zs[j]? = some z) (h2 : ∀ m, m < j → zs[m]? ≠ some z) (q : Q (.int (j : Nat)) H) : rIndex K (.ref p) [.int z] H Q := by
  refine ⟨p, zs.map V.int, .int z, j, .int z, rfl, rfl, g, rfl, ?_, by rw [List.getElem?_map, h1]; rfl, beq_self_eq_true z, fun m z' hm hz => ?_, q⟩
  · rw [List.all_map]; exact List.all_eq_true.mpr fun _ _ => rfl
  · rw [List.getElem?_map] at hz
    cases e : zs[m]? with
    | none => rw [e] at hz; cases hz
    | some y =>
      rw [e] at hz
      cases hz
      exact beq_eq_false_iff_ne.mpr fun w => h2 m hm (by rw [e, w])
theorem cnt_str {K : PySem.W.Frag} {p : Addr} {zs : List Str} {z : Str} {H : Hp} {Q : VK} (g : SqL K H p (zs.map V.str)) (q : Q (.int (zs.count z : Nat)) H) : rCnt K (.ref p) [.str z] H Q := by
  refine ⟨p, _, _, rfl, rfl, g, rfl, ?_, ?_⟩
  · rw [List.all_map]; exact List.all_eq_true.mpr fun _ _ => rfl
  · rw [List.countP_map]
    exact q
theorem cnt_int {K : PySem.W.Frag} {p : Addr} {zs : List Int} {z : Int} {H : Hp} {Q : VK} (g : SqL K H p (zs.map V.int)) (q : Q (.int (zs.count z : Nat)) H) : rCnt K (.ref p) [.int z] H Q := by
  refine ⟨p, _, _, rfl, rfl, g, rfl, ?_, ?_⟩
  · rw [List.all_map]; exact List.all_eq_true.mpr fun _ _ => rfl
  · rw [List.countP_map]
    exact q
/-- a method, by data -/
theorem mi_s {Z F H : Hp} {env : Ev} {σ : L2.St} {d : D} {ds : List D} {x : V} {vs : List V} {m : Mi} {Q : RR → Prop} {Q' : VK} (s : SR S Z F env σ H) (r : Rd S F H d x) (hp : Paired (Rd S F H) ds vs) (h : miop m d ds Q)
    (k : ∀ F' H' v r, Q r → Same F F' → SR S Z F' env σ H' → RRel S Z F' H' σ env r v → Q' v H') : miRd S.K m x vs H Q' := by
  unfold miop at h
  split at h
  · rename_i a b
    obtain ⟨v, rfl, r2⟩ := one_rd hp
    obtain ⟨⟨h1, h2⟩, q⟩ := h
    exact ⟨a, b, r.str, by rw [r2.str], h1, lim_le h2, fin_new s q (reps_strs _) k⟩
  · rename_i a xs
    obtain ⟨v, rfl, r2⟩ := one_rd hp
    obtain ⟨p, ys, rfl, g1, g2⟩ := r2.lst s.same
    split at h
    · rename_i zs e
      exact ⟨a, p, zs, r.str, rfl, .inl (by rw [← strs_rep g2 e]; exact SqL.of g1), h.1, fin_val s h.2 rfl k⟩
    · exact h.elim
  · rename_i a b
    obtain ⟨v, rfl, r2⟩ := one_rd hp
    obtain ⟨j, h1, q⟩ := h
    exact ⟨a, b, j, r.str, by rw [r2.str], h1, fin_val s q rfl k⟩
  · rename_i xs z
    obtain ⟨v, rfl, r2⟩ := one_rd hp
    obtain ⟨p, ys, rfl, _, g1, g2⟩ := r.tpn s.same
    split at h
    · rename_i zs e
      obtain ⟨j, h1, h2, q⟩ := h
      exact ⟨p, zs, z, j, rfl, by rw [r2.str], by rw [← strs_rep g2 e]; exact g1, h1, h2, fin_val s q rfl k⟩
    · exact h.elim
  · rename_i xs z
    obtain ⟨v, rfl, r2⟩ := one_rd hp
    obtain ⟨p, ys, rfl, g1, g2⟩ := r.lst s.same
    split at h
    · rename_i zs e
      obtain ⟨j, h1, h2, q⟩ := h
      rw [r2.str]
      exact index_str (by rw [← strs_rep g2 e]; exact SqL.of g1) h1 h2 (fin_val s q rfl k)
    · exact h.elim
  · rename_i xs z
    obtain ⟨v, rfl, r2⟩ := one_rd hp
    obtain ⟨p, ys, rfl, g1, g2⟩ := r.lst s.same
    split at h
    · rename_i zs e
      obtain ⟨j, h1, h2, q⟩ := h
      rw [r2.int]
      exact index_int (by rw [← ints_rep g2 e]; exact SqL.of g1) h1 h2 (fin_val s q rfl k)
    · exact h.elim
  · rename_i xs z
    obtain ⟨v, rfl, r2⟩ := one_rd hp
    obtain ⟨p, ys, rfl, g1, g2⟩ := r.lst s.same
    split at h
    · rename_i zs e
      rw [r2.str]
      exact cnt_str (by rw [← strs_rep g2 e]; exact SqL.of g1) (fin_val s h rfl k)
    · exact h.elim
  · rename_i xs z
    obtain ⟨v, rfl, r2⟩ := one_rd hp
    obtain ⟨p, ys, rfl, g1, g2⟩ := r.lst s.same
    split at h
    · rename_i zs e
      rw [r2.int]
      exact cnt_int (by rw [← ints_rep g2 e]; exact SqL.of g1) (fin_val s h rfl k)
    · exact h.elim
  · exact h.elim
theorem RS.mi {to : TE} {wo : WR} {t : TA} {w : Ev → (List RR → Ev → Prop) → Prop} {m : Mi} (ho : RS S to wo) (h : RL S t w) : RS S (tBN S.K (miTy m) (miRd S.K m) to t) (fun env Q => wo env fun r e1 => rdK e1 r fun d => miT m d = true ∧ w e1 fun rs e2 => rdK e2 r fun d1 => rdKs e2 rs fun ds => miop m d1 ds fun r => Q r e2) := by
  intro Z F env σ H Q Q' s hw k
  refine ho Z F env σ H _ _ s hw fun F1 H1 x r1 e1 q1 s1 i1 rr1 => ?_
  obtain ⟨d, g1, ty, q1⟩ := rdK_some q1
  refine ⟨mi_ty i1 (now_rr i1 rr1 g1) ty, ?_⟩
  refine h _ F1 e1 σ H1 _ _ (zx_sr i1 rr1) q1 fun Z2 F2 H2 vs rs e2 q2 le2 s2 i2 ok2 => ?_
  obtain ⟨d1, g2, q2⟩ := rdK_some q2
  obtain ⟨ds, g3, q2⟩ := rdKs_some q2
  have le : ∀ a o, Z a = some o → Z2 a = some o := fun a o z => le2 a o (zx_le rr1 a o z)
  exact mi_s i2 (keep_rr rr1 s2 (sr_weak le2 i2) g2) (rsok_rd i2 ok2 g3) q2 fun F3 H3 v r q e i rr => k F3 H3 v r e2 q ((s1.trans s2).trans e) (sr_weak le i) (rrel_weak le rr)
end
end PV

/-! PV: isinstance, C(*xs), keywords, by data. -/
namespace PV
open PySem L2

def tnC (S : Sg) : Tn → V
  | .str => .ty "str" | .int => .ty "int" | .bool => .ty "bool" | .tup => .ty "tuple" | .lst => .ty "list" | .dct => .ty "dict" | .own c => .ref (S.ca c)
theorem tn_cls (S : Sg) (t : Tn) : ClsV (tnC S t) (tnV S t) := by
  cases t <;> first
    | exact .ty _
    | exact .own _
section
variable {X : Cx} {S : Sg} {G : Gt} {c : Cs}
theorem pe_tn {t : Tn} {z : Str} {p : Pos} (o : XOk X S G c) (hg : Gl X z) (h : tnName G t z = true) (hd : (z == ("__debug__" : Str)) = false) : PE X (.Name z p) (tC (tnC S t)) := by
  cases t with
  | own k =>
    have h : decide (G.cn[k]? = some z) = true := h
    exact pe_glob hg (o.w.cls k z (of_decide_eq_true h)).2.1 rfl hd
  | str => cases (of_decide_eq_true (show decide (z = "str") = true from h)); exact pe_bltn hg (o.w.bt _ (by decide)) PyProof.Rows.boot_str rfl
  | int => cases (of_decide_eq_true (show decide (z = "int") = true from h)); exact pe_bltn hg (o.w.bt _ (by decide)) PyProof.Rows.boot_int rfl
  | bool => cases (of_decide_eq_true (show decide (z = "bool") = true from h)); exact pe_bltn hg (o.w.bt _ (by decide)) PyProof.Rows.boot_bool rfl
  | tup => cases (of_decide_eq_true (show decide (z = "tuple") = true from h)); exact pe_bltn hg (o.w.bt _ (by decide)) PyProof.Rows.boot_tuple rfl
  | lst => cases (of_decide_eq_true (show decide (z = "list") = true from h)); exact pe_bltn hg (o.w.bt _ (by decide)) PyProof.Rows.boot_list rfl
  | dct => cases (of_decide_eq_true (show decide (z = "dict") = true from h)); exact pe_bltn hg (o.w.bt _ (by decide)) PyProof.Rows.boot_dict rfl
theorem pe_isi {t : Tn} {y : Expr} {ty : TE} {z : Str} {p p2 pos : Pos} (o : XOk X S G c) (hx : Gl X "isinstance") (hz : Gl X z) (h : tnName G t z = true) (hd : (z == ("__debug__" : Str)) = false) (hn : noStar y = true) (hy : PE X y ty) :
    PE X (.Call (.Name "isinstance" p) [y, .Name z p2] [] pos) (tCB (rIsi X.K) (tCons ty (tCons (tC (tnC S t)) tNil))) := by
  have h2 : starEach [Expr.Name z p2] X.env = (false, eval (.Name z p2) X.env) :: starEach [] X.env := rfl
  exact pe_callB call_isi hx (o.w.bt _ (by decide)) PyProof.Rows.boot_isinstance (pa_cons hy (pa_cons (pe_tn o hz h hd) pa_nil h2) (star_cons hn)) (by decide) (by decide) (star_cons hn) (by rw [h2]; rfl)
/-- the type of a datum -/
theorem isi_ty {Z F H : Hp} {env : Ev} {σ : L2.St} {d : D} {v : V} {t : Tn} {b : Bool} (w : WOk X.prog X.w X.K X.mg X.base S G) (s : SR S Z F env σ H) (r : Rd S F H d v) (hn : ∀ k, t = .own k → ∃ x, G.cn[k]? = some x) (h : isiD G.isi t d = some b) :
    ∃ u, TyX S.K H v u ∧ PySem.W.kitOne S.K u (tnV S t) = some b := by
  have bb : ∀ (n : String), n ∈ ["NoneType", "bool", "int", "str", "tuple", "list", "dict"] → ∀ k, t = .own k → PySem.W.kitOne S.K (.type n) (tnV S t) = some false := fun n hm k e => by
    subst e
    obtain ⟨x, hx⟩ := hn k rfl
    rw [w.hK]
    exact w.isb k x hx n hm
  cases d with
  | dct ks ds =>
    cases h
    obtain ⟨a, kvs, rfl, h1, _, _⟩ := r.dct s.same
    refine ⟨.type "dict", .base (.dK h1), ?_⟩
    cases t with
    | own k => exact bb _ (by decide) k rfl
    | _ => exact kit_ty (by decide +kernel)
  | non =>
    rw [r.non]
    cases h
    refine ⟨_, .base .non, ?_⟩
    cases t with
    | own k => exact bb _ (by decide) k rfl
    | _ => exact kit_ty (by decide +kernel)
  | bl x =>
    rw [r.bl]
    refine ⟨_, .base (.bl _), ?_⟩
    cases t with
    | own k => cases h; exact bb _ (by decide) k rfl
    | _ => cases h; exact kit_ty (by decide +kernel)
  | int x =>
    rw [r.int]
    refine ⟨_, .base (.int _), ?_⟩
    cases t with
    | own k => cases h; exact bb _ (by decide) k rfl
    | _ => cases h; exact kit_ty (by decide +kernel)
  | str x =>
    rw [r.str]
    refine ⟨_, .base (.str _), ?_⟩
    cases t with
    | own k => cases h; exact bb _ (by decide) k rfl
    | _ => cases h; exact kit_ty (by decide +kernel)
  | tup ds =>
    obtain ⟨a, ys, rfl, g1, _⟩ := r.tup s.same
    refine ⟨.type "tuple", ?_, ?_⟩
    · rcases g1 with (g1 | ⟨o, g1⟩) | ⟨o, its, n, g1, g2, _⟩
      · exact .base (.tup g1)
      · exact .fTuple g1
      · exact .kTuple g1 g2
    · cases t with
      | own k => cases h; exact bb _ (by decide) k rfl
      | _ => cases h; exact kit_ty (by decide +kernel)
  | tpn ds =>
    obtain ⟨a, ys, rfl, ⟨o, g1, _⟩, _⟩ := r.tpn s.same
    refine ⟨.type "tuple", .fTuple g1, ?_⟩
    cases t with
      | own k => cases h; exact bb _ (by decide) k rfl
      | _ => cases h; exact kit_ty (by decide +kernel)
  | lst ds =>
    obtain ⟨a, ys, rfl, g1, _⟩ := r.lst s.same
    refine ⟨.type "list", .base (.lst g1), ?_⟩
    cases t with
      | own k => cases h; exact bb _ (by decide) k rfl
      | _ => cases h; exact kit_ty (by decide +kernel)
  | rol ds =>
    obtain ⟨a, ys, rfl, g1, _⟩ := r.rol s.same
    refine ⟨.type "list", ?_, ?_⟩
    · rcases g1 with (g1 | ⟨o, g1⟩) | ⟨o, its, n, g1, g2, _⟩
      · exact .base (.lst g1)
      · exact .base (.frz g1)
      · exact .kList g1 g2
    · cases t with
      | own k => cases h; exact bb _ (by decide) k rfl
      | _ => cases h; exact kit_ty (by decide +kernel)
  | obj k ds =>
    obtain ⟨a, dx, fs, rfl, g1, _⟩ := r.obj s.same
    obtain ⟨f, e⟩ := w.isi k t b h
    rw [← w.hK] at f e
    exact ⟨_, .base (.ins g1 f.cl f.ha f.hn f.ht f.hm), e⟩
theorem RS.isi {t : TE} {wo : WR} {k : Tn} (w : WOk X.prog X.w X.K X.mg X.base S G) (hn : ∀ j, k = .own j → ∃ x, G.cn[j]? = some x) (h : RS S t wo) :
    RS S (tCB (rIsi S.K) (tCons t (tCons (tC (tnC S k)) tNil))) (fun env Q => wo env fun r e1 => rdK e1 r fun d => match isiD G.isi k d with | some b => Q (.val (.bl b)) e1 | none => False) := by
  intro Z F env σ H Q Q' s hw kk
  refine h Z F env σ H _ _ s hw fun F1 H1 x r1 e1 q1 s1 i1 rr1 => ?_
  obtain ⟨d, g1, q1⟩ := rdK_some q1
  cases q : isiD G.isi k d with
  | none => rw [q] at q1; exact q1.elim
  | some b =>
    rw [q] at q1
    obtain ⟨u, ty, ok⟩ := isi_ty w i1 (now_rr i1 rr1 g1) hn q
    exact ⟨x, tnC S k, u, tnV S k, b, rfl, tn_cls S k, ty, ok, kk F1 H1 _ _ e1 q1 s1 i1 rfl⟩
end
section
variable {S : Sg} {G : Gt}
theorem RS.makeS {t : TE} {wo : WR} {f c : Nat} {i : Fi} (h : RS S t wo) (hi : G.fi[f]? = some i) (hio : i.io = [true, false]) :
    RS S (fun σ H Q => t σ H fun y H1 => ∃ a xs, y = V.ref a ∧ (SqT S.K H1 a xs ∨ SqL S.K H1 a xs) ∧ ∀ x dx, H1 x = none → H1 dx = none → dx ≠ x →
      spRest 1 (spOf S i.io (G.sp f)) (V.ref x :: xs) (upd (upd H1 dx (.own x)) x (.ins (S.ca c) dx [])) (fun v H2 => v = .non ∧ Q (.ref x) H2) E0)
    (fun env Q => wo env fun r e1 => rdK e1 r fun d => match itemsOf d with
    | some ds => ds.length ≤ LIM ∧ makeK G c f [.val (.tup ds)] e1 Q
    | none => False) := by
  intro Z F env σ H Q Q' s hw k
  refine h Z F env σ H _ _ s hw fun F1 H1 y r1 e1 q1 s1 i1 rr1 => ?_
  obtain ⟨d, g1, q1⟩ := rdK_some q1
  cases qi : itemsOf d with
  | none => rw [qi] at q1; exact q1.elim
  | some ds =>
    rw [qi] at q1
    obtain ⟨hlen, q1⟩ := q1
    obtain ⟨a, ys, rfl, hq, rys⟩ := rd_items i1 (now_rr i1 rr1 g1) qi
    refine ⟨a, ys, rfl, hq.symm, fun x dx hx hdx ne => ⟨[V.ref x], ys, rfl, rfl, by rw [rys.length, ← lim_eq]; exact hlen, fun p hp => ?_⟩⟩
    unfold makeK callK at q1
    rw [hi] at q1
    obtain ⟨ho, q1⟩ := q1
    obtain ⟨as, g, q1⟩ := rdKs_some q1
    have i2 : SR S Z F1 e1 σ (upd H1 dx (.own x)) := sr_newH i1 hdx
    have hx2 : (upd H1 dx (.own x)) x = none := by rw [upd_ne (Ne.symm ne)]; exact hx
    have i3 : SR S Z F1 e1 σ (upd (upd H1 dx (.own x)) x (.ins (S.ca c) dx [])) := sr_newH i2 hx2
    have mine : Mine S Z F1 (upd (upd H1 dx (.own x)) x (.ins (S.ca c) dx [])) σ e1 (.obj c []) (.ref x) := mine_new i2 hx2 ⟨dx, [], rfl, by simp, rfl⟩
    have i4 := sr_push i3 mine
    -- the tuple
    have fp := fresh_F i4 hp
    have e5 : Same F1 (upd F1 p (.tup ys)) := same_new fp
    have i5 := sr_newF (o := .tup ys) i4 hp
    have rp : Rep S (upd F1 p (.tup ys)) (.tup ds) (.ref p) := ⟨p, ys, rfl, SqT.of upd_same, Reps.mono e5 _ _ rys⟩
    have ok2 : RsOk S Z Z (upd F1 p (.tup ys)) (σ ++ [some (V.ref x)]) [.sl e1.length, .val (.tup ds)] [V.ref x, V.ref p] := by
      refine ⟨V.ref x, [V.ref p], rfl, ⟨V.ref p, [], rfl, rfl, rp⟩, ?_⟩
      show (σ ++ [some (V.ref x)])[e1.length]? = _
      rw [← i1.len]; simp
    refine call_ok (Q := fun r e2 => r = .val .non ∧ match e2.getLast? with
      | some (.own o) => Q (.fr o) e2.dropLast
      | _ => False) i5 (fun _ _ z => z) ok2 ho g q1 fun F2 H2 v r e2 q e i6 rr => ?_
    obtain ⟨rfl, q⟩ := q
    have hv : v = .non := rr
    refine ⟨hv, ?_⟩
    cases gl : e2.getLast? with
    | none => rw [gl] at q; exact False.elim q
    | some y =>
      rw [gl] at q
      cases y with
      | un => exact False.elim q
      | val d => exact False.elim q
      | own o =>
        have hne : e2 ≠ [] := by intro z; subst z; simp at gl
        have e2e : e2 = e2.dropLast ++ [.own o] := by
          have := List.dropLast_concat_getLast hne
          rw [List.getLast?_eq_some_getLast hne] at gl
          have ee : e2.getLast hne = .own o := Option.some.inj gl
          rw [ee] at this
          exact this.symm
        rw [e2e] at i6
        obtain ⟨i7, m7⟩ := sr_pop i6
        exact k F2 H2 (.ref x) (.fr o) e2.dropLast q ((s1.trans e5).trans e) i7 m7
end
/-! ### keywords -/
section
variable {X : Cx} {k n : Nat} {f : Addr} {sp : Sp} {x : Str} {p pos : Pos} {e : Expr} {es : List Expr} {kws : List Keyword} {ks : List Str} {t : TA}
theorem kw_names {env : Env} {pos : Pos} : ∀ {kws : List Keyword}, (backToKw pos (keywordEach kws env)).map (·.1) = kws.map (·.arg)
  | [] => rfl
  | ⟨a, v, q⟩ :: r => congrArg (a :: ·) (kw_names (kws := r))
end
end PV

/-! PV: enumerate and zip. -/
namespace PV
open PySem L2

/-! ### enumerate(v), one argument -/
set_option maxHeartbeats 1000000 in
theorem enum_new {v : Value} {o : Obj} {H : Heap → Prop} (B : Begins v o H) :
    Meets (Builtin.«enumerate.__new__» ⟨[.type "enumerate", v], []⟩) (fun _ R s => H s.heap ∧
      R (.ok (.ret (.ref (s.heap.push o).objs.size))) { s with heap := (s.heap.push o).push { cls := .type "enumerate", data := .fields #[.none, .bool false, .ref s.heap.objs.size, rawInt 0, .none, .none] } }) :=
  .of_wp fun P W B' R0 sh both => by
    obtain ⟨hh, gs, dr, tk, ow⟩ := sh
    obtain ⟨hH, goal⟩ := both
    have kinds := sub_enumerate
    have begun : ∀ {B2 : Around} {E2 : Value → Shared → Prop} {Q2 : Value → Shared → Prop}, Q2 (.ref hh.objs.size) ⟨hh.push o, gs, dr, tk, ow⟩ → wpAny (model P W) B2 (pyIter v) Q2 E2 ⟨hh, gs, dr, tk, ow⟩ := fun z => B.iter P W _ _ ⟨hh, gs, dr, tk, ow⟩ _ hH z
    wp_walk using begun
    refine wpAny_stack_any fun st => wpAny_pure ?_
    split
    · rename_i kk _ _ _ _ _
      cases (kk == Value.type "enumerate") <;> (wp_walk using begun; exact ⟨_, rfl, goal⟩)
    · wp_walk using begun
      exact ⟨_, rfl, goal⟩
section
variable {prog : Program} {w : World} {A : Around} {E : Value → Shared → Prop} {s : Shared}
theorem call_enum1 {v : Value} {o : Obj} {H : Heap → Prop} {Q : Value → Shared → Prop} (B : Begins v o H) (hH : H s.heap)
    (h : ∀ h2, IsEnum h2 (s.heap.objs.size + 1) s.heap.objs.size 0 .none → h2.get? s.heap.objs.size = some o → (∀ b u, s.heap.get? b = some u → h2.get? b = some u) → Q (.ref (s.heap.objs.size + 1)) { s with heap := h2 }) :
    wpAny (model prog w) A (call (.type "enumerate") [v]) Q E s := by
  have sz : (s.heap.push o).objs.size = s.heap.objs.size + 1 := Heap.size_push ..
  refine callType_new F.called_enumerate (by decide) (F.typeCall_enumerate_1 _) (F.newCall_enumerate_1 _) (fun obj => F.args_object_init_2 obj _) F.entry_enumerate_new (enum_new B) ⟨hH, ?_⟩
  show _ ∧ _
  rw [sz]
  have he : IsEnum ((s.heap.push o).push { cls := .type "enumerate", data := .fields #[.none, .bool false, .ref s.heap.objs.size, rawInt 0, .none, .none] }) (s.heap.objs.size + 1) s.heap.objs.size 0 .none := by
    have z := Heap.get?_push_size (s.heap.push o) (o := { cls := .type "enumerate", data := .fields #[.none, .bool false, .ref s.heap.objs.size, rawInt 0, .none, .none] }) rfl
    rw [sz] at z
    exact z
  exact ⟨⟨_, he, rfl⟩, h _ he (Heap.get?_push_of_some _ (Heap.get?_push_size _ B.free)) fun b u x => Heap.get?_push_of_some _ (Heap.get?_push_of_some _ x)⟩
/-- nothing more is drawn -/
theorem draws_out (hh : A.handled = none) (it a : Addr) (items : Array Value) (i : Nat) (hx : items[i]? = none) : Draws prog w A it [it, a] i (fun _ _ => True) (fun j h => j = i ∧ h.IsTupleIter it a i ∧ h.IsTuple a items) where
  live := fun _ _ st => let ⟨o, ho, _⟩ := st.2.1; ⟨o, ho⟩
  frame := fun _ _ _ st hk => ⟨st.1, st.2.1.at fun o e => hk it (by simp) o e, st.2.2.at fun o e => hk a (by simp) o e⟩
  item := fun j s Q E hlt st _ => absurd st.1 (Nat.ne_of_lt hlt)
  done := fun s Q E st hE => wpAny_nextOf_tuple_end hh st.2.1 st.2.2 hx hE
end
/-- the tuple at a, each item in a new pair -/
def Itet (K : PySem.W.Frag) (a : Addr) : It :=
  ⟨fun i H => ∃ (xs : List V) (x : V), SqT K H a xs ∧ xs[i]? = some x, fun i H v H' => ∃ T x, v = .ref T ∧ H T = none ∧ H' = upd H T (.tup [.int (i : Nat), x]) ∧ ∀ xs, SqT K H a xs → xs[i]? = some x, fun i H => ∃ xs : List V, SqT K H a xs ∧ xs.length ≤ i⟩
theorem turn_enumT {P : Program} {w : World} {K : PySem.W.Frag} {elts : List Expr} {kk : Nat} {tpos : Pos} (a e it : Addr) :
    Turn P w K (.Tuple elts kk tpos) (Itet K a) [e, it] e (fun i h => ((∃ old, IsEnum h e it ((i : Nat) : Int) old) ∧ h.IsTupleIter it a i) ∧ e ≠ it ∧ e ≠ a ∧ a ≠ it) where
  mem := by simp
  obj := fun i h st b hb => by
    obtain ⟨⟨⟨old, he⟩, ⟨o, ho, hc, hd⟩⟩, _⟩ := st
    rcases (show b = e ∨ b = it by simpa using hb) with rfl | rfl
    · exact ⟨_, he, fun v q => nomatch q⟩
    · exact ⟨o, ho, fun v q => by rw [hd] at q; cases q⟩
  keep := fun i h h' st k => let ⟨⟨⟨old, he⟩, hi⟩, r⟩ := st; ⟨⟨⟨old, k e (by simp) _ he⟩, hi.at fun o q => k it (by simp) o q⟩, r⟩
  item := by
    intro X hP hw hK hc i pins s σ H E I hf st hg
    subst hP hw hK
    obtain ⟨⟨⟨old, he⟩, hit⟩, n1, n2, n3⟩ := st
    obtain ⟨xs, x, hq, hx⟩ := hg
    obtain ⟨its, rv, pt, hz⟩ := I.tuple hq
    obtain ⟨u, hu, ru⟩ := rv.get hx
    have hil : i < its.toArray.size := by have := (List.getElem?_eq_some_iff.mp hu).1; simpa using this
    have hel : e < s.heap.objs.size := Heap.lt_size he
    have hitl : it < s.heap.objs.size := by obtain ⟨_, q, _⟩ := hit; exact Heap.lt_size q
    have pt' : s.heap.IsTuple a its.toArray := pt
    have hh1 : X.A.in1.handled = none := I.ok.hd hc
    have D := Draws.tuple (prog := X.prog) (w := X.w) (A := X.A.in1) hh1 it a n3 its.toArray
    refine wpAny_pyNext_enum_itemD D he ⟨hit, pt'⟩ hil n1 (by simp [n1, n2]) ?_
    intro y h1 tk hy ho hst hT hsz hk
    have ey : y = u := by
      have hy : its.toArray[i]? = some y := hy
      have hu2 : its.toArray[i]? = some u := by simpa using hu
      rw [hu2] at hy; exact (Option.some.inj hy).symm
    subst ey
    refine ⟨_, rfl, wpAny_letOwnedTupleGo_enum (s := { s with heap := h1, toks := tk + 1 }) ho fun h2 he2 sb => ?_⟩
    have hT2 : h2.get? s.heap.objs.size = some { cls := .type "tuple", data := .seq #[.int i tk, y] } := (sb.2 _ (Nat.ne_of_gt hel)).trans hT
    have new : ObjOk X.prog X.w (upd H s.heap.objs.size (.tup [.int (i : Nat), x])) h2 s.heap.objs.size (.tup [.int (i : Nat), x]) :=
      ⟨by show 2 ≤ sizeLine; decide, [.int i tk, y], .cons ⟨_, rfl⟩ (.cons ru .nil), ⟨_, hT2, rfl, _, rfl⟩⟩
    have J : Inv X pins σ (upd H s.heap.objs.size (.tup [.int (i : Nat), x])) { s with heap := h2, toks := tk + 1 } :=
      I.turnedNew (ch := [e, it]) (fun b ob hb q => (sb.2 b (fun z => hb (by simp [z]))).trans (hk b ob (fun z => hb (by simp [z])) (fun z => hb (by simp [z])) q)) hf (Nat.le_refl _) new
    refine ⟨.ref s.heap.objs.size, _, J, rfl, ⟨_, x, rfl, I.hok.fresh (Nat.le_refl _), rfl, fun ys hy' => ?_⟩, ⟨⟨⟨y, ?_⟩, hst.1.at fun o q => (sb.2 it (Ne.symm n1)).trans q⟩, n1, n2, n3⟩, fun b hb => ?_⟩
    · rw [I.tuple_inj hy' hq]; exact hx
    · have e1 : ((i + 1 : Nat) : Int) = (i : Int) + 1 := by omega
      rw [e1]; exact he2
    · have hb' : b < s.heap.objs.size := by
        rcases (show b = e ∨ b = it by simpa using hb) with rfl | rfl
        · exact hel
        · exact hitl
      rw [upd_ne (Nat.ne_of_lt hb')]
      exact (hf b hb).1
  done := by
    intro X hP hw hK hc i pins s σ H E I hf st hg
    subst hP hw hK
    obtain ⟨⟨⟨old, he⟩, hit⟩, n1, n2, n3⟩ := st
    obtain ⟨xs, hq, hx⟩ := hg
    obtain ⟨its, rv, pt, hz⟩ := I.tuple hq
    obtain ⟨f0, f1, f2, f3, f4, f5⟩ := hf it (by simp)
    have hl := rv.length
    have pt' : s.heap.IsTuple a its.toArray := pt
    have hh1 : X.A.in1.handled = none := I.ok.hd hc
    have D := draws_out (prog := X.prog) (w := X.w) (A := X.A.in1) hh1 it a its.toArray i (by simp; omega)
    exact wpAny_pyNext_enum_endD D he ⟨rfl, hit, pt'⟩ fun h2 eb => ⟨rfl, I.turned (t' := s.toks) (fun b o hb q => eb b o hb q) f0 f1 f3 f4 f5⟩
  self := fun A i s Q E st h => let ⟨⟨⟨_, he⟩, _⟩, _⟩ := st; wpAny_pyIter_enum he h

def iEnumA (K : PySem.W.Frag) (ta : TA) : TI := fun σ H R => ta σ H fun vs H1 => ∃ a xs, vs = [.ref a] ∧ ((SqL K H1 a xs ∧ R (Ite K a) H1) ∨ (SqT K H1 a xs ∧ R (Itet K a) H1))
theorem pi_enumA {X : Cx} {e : Expr} {ta : TA} {p pos tpos : Pos} {elts : List Expr} {kk : Nat} (hg : Gl X "enumerate") (hm : X.mg "enumerate" = none) (ha : PA X [e] ta) (hn : noStar e = true) :
    PI X (.Tuple elts kk tpos) (.Call (.Name "enumerate" p) [e] [] pos) (iEnumA X.K ta) := by
  have hs : starEach [e] X.env = [(false, eval e X.env)] := star_cons hn
  constructor
  intro pins s σ H R I h
  refine PyProof.Rows.Call_ (ld_blt I hg hm PyProof.Rows.boot_enumerate (PyProof.Rows.callWith_type1 (thn (ha.run pos pins s σ H _ I h) ?_) hs rfl))
  rintro us s1 ⟨vs, H1, I1, r1, a, xs, rfl, q1⟩
  obtain ⟨u, rfl, ru⟩ := vals1 r1
  cases ru
  have fr : ∀ b, b ∈ [s1.heap.objs.size + 1, s1.heap.objs.size] → FpOk X pins H1 b := fun b hb => by
    have le : s1.heap.objs.size ≤ b := by
      rcases (show b = s1.heap.objs.size + 1 ∨ b = s1.heap.objs.size by simpa using hb) with z | z <;> omega
    exact I1.fpOk le (I1.hok.fresh le)
  rcases q1 with ⟨hq, q⟩ | ⟨hq, q⟩
  · obtain ⟨its, rv, pl, hz⟩ := I1.list hq
    refine call_enumerate_list pl.isList fun h2 he hit hsz hk => wpAny_pyIter_enum he ?_
    exact ⟨s1.heap.objs.size + 1, [s1.heap.objs.size + 1, s1.heap.objs.size], _, _, H1, rfl, I1.kept (t' := s1.toks) hk, turn_enum a (s1.heap.objs.size + 1) s1.heap.objs.size, ⟨⟨.none, he⟩, hit, Nat.succ_ne_self _⟩, fr, q⟩
  · obtain ⟨its, rv, pt, hz⟩ := I1.tuple hq
    have al : a < s1.heap.objs.size := by obtain ⟨_, q, _⟩ := pt; exact Heap.lt_size q
    refine call_enum1 (begins_tuple a its.toArray) pt fun h2 he hit hk => wpAny_pyIter_enum he ?_
    exact ⟨s1.heap.objs.size + 1, [s1.heap.objs.size + 1, s1.heap.objs.size], _, _, H1, rfl, I1.kept (t' := s1.toks) hk, turn_enumT a (s1.heap.objs.size + 1) s1.heap.objs.size, ⟨⟨⟨.none, he⟩, ⟨_, hit, rfl, rfl⟩⟩, Nat.succ_ne_self _, Nat.ne_of_gt (Nat.lt_succ_of_lt al), Nat.ne_of_lt al⟩, fr, q⟩

/-! ### zip(a tuple, a list) -/
section
variable {prog : Program} {w : World} {A : Around}
/-- nothing more is drawn from a list -/
theorem draws_outL (hh : A.handled = none) (it a : Addr) (items : Array Value) (i : Nat) (hx : items[i]? = none) : Draws prog w A it [it, a] i (fun _ _ => True) (fun j h => j = i ∧ h.IsListIter it a i ∧ h.IsList a items) where
  live := fun _ _ st => let ⟨o, ho, _⟩ := st.2.1; ⟨o, ho⟩
  frame := fun _ _ _ st hk => ⟨st.1, st.2.1.at fun o e => hk it (by simp) o e, st.2.2.at fun o e => hk a (by simp) o e⟩
  item := fun j s Q E hlt st _ => absurd st.1 (Nat.ne_of_lt hlt)
  done := fun s Q E st hE => wpAny_nextOf_list_end hh st.2.1 st.2.2 hx hE
end
def ItzM (K : PySem.W.Frag) (a b : Addr) : It :=
  ⟨fun i H => ∃ xs ys : List V, ∃ x y : V, SqT K H a xs ∧ SqL K H b ys ∧ xs[i]? = some x ∧ ys[i]? = some y,
   fun i H v H' => ∃ T x y, v = .ref T ∧ H T = none ∧ H' = upd H T (.tup [x, y]) ∧ (∀ xs, SqT K H a xs → xs[i]? = some x) ∧ ∀ ys, SqL K H b ys → ys[i]? = some y,
   fun i H => ∃ xs ys : List V, SqT K H a xs ∧ SqL K H b ys ∧ (xs.length ≤ i ∨ ys.length ≤ i)⟩
structure MzSt (z TI TO i1 i2 a b : Addr) (i : Nat) (h : Heap) : Prop where
  hz : IsZip h z TI TO .none
  hTI : IsTupOf2 h TI (.ref i1) (.ref i2)
  hTO : ∃ x y, IsTupOf2 h TO x y
  h1 : h.IsTupleIter i1 a i
  h2 : h.IsListIter i2 b i
theorem five {z TI TO i1 i2 c : Addr} (h : c ∈ [z, TI, TO, i1, i2]) : c = z ∨ c = TI ∨ c = TO ∨ c = i1 ∨ c = i2 := by simpa using h
theorem turn_zipM {P : Program} {w : World} {K : PySem.W.Frag} {elts : List Expr} {kk : Nat} {tpos : Pos} {a b z TI TO i1 i2 : Addr} (D : ZipSep2 z TI TO i1 i2 [i1, a] [i2, b]) (na : a ≠ i1) (nb : b ≠ i2) :
    Turn P w K (.Tuple elts kk tpos) (ItzM K a b) [z, TI, TO, i1, i2] z (MzSt z TI TO i1 i2 a b) where
  mem := by simp
  obj := fun i h st c hc => by
    obtain ⟨hz, hTI, ⟨x, y, hTO⟩, ⟨o1, e1, _, d1⟩, ⟨o2, e2, _, d2⟩⟩ := st
    rcases five hc with rfl | rfl | rfl | rfl | rfl
    · exact ⟨_, hz, nofun⟩
    · exact ⟨_, hTI, nofun⟩
    · exact ⟨_, hTO, nofun⟩
    · refine ⟨o1, e1, fun v q => ?_⟩
      rw [d1] at q; cases q
    · refine ⟨o2, e2, fun v q => ?_⟩
      rw [d2] at q; cases q
  keep := fun i h h' st k =>
    let ⟨x, y, t⟩ := st.hTO
    ⟨k z (by simp) _ st.hz, k TI (by simp) _ st.hTI, ⟨x, y, k TO (by simp) _ t⟩, st.h1.at fun o q => k i1 (by simp) o q, st.h2.at fun o q => k i2 (by simp) o q⟩
  item := by
    intro X hP hw hK hc i pins s σ H E I hf st hg
    subst hP hw hK
    obtain ⟨hz, hTI, ⟨x0, y0, hTO⟩, h1, h2⟩ := st
    obtain ⟨xs, ys, x, y, hqx, hqy, hx, hy⟩ := hg
    obtain ⟨us, rv, p, _⟩ := I.tuple hqx
    obtain ⟨ws, rv2, p2, _⟩ := I.list hqy
    obtain ⟨u, hu, ru⟩ := rv.get hx
    obtain ⟨v, hv, rv'⟩ := rv2.get hy
    have lz : z < s.heap.objs.size := Heap.lt_size hz
    have hh1 : X.A.in1.handled = none := I.ok.hd hc
    have D1 := Draws.tuple (prog := X.prog) (w := X.w) (A := X.A.in1) hh1 i1 a na us.toArray
    have D2 := Draws.list (prog := X.prog) (w := X.w) (A := X.A.in1) hh1 i2 b nb ws.toArray
    have il : i < us.toArray.size := by have := (List.getElem?_eq_some_iff.mp hu).1; simpa using this
    have il2 : i < ws.toArray.size := by have := (List.getElem?_eq_some_iff.mp hv).1; simpa using this
    refine wpAny_pyNext_zipD2_item D D1 D2 hz hTI hTO ⟨h1, p⟩ ⟨h2, p2.isList⟩ il il2 fun u' v' g tk eu ev z' TO' s1' s2' hT hsz hk => ?_
    have eu' : u' = u := by
      have eu : us.toArray[i]? = some u' := eu
      rw [show us.toArray[i]? = some u by simpa using hu] at eu; exact (Option.some.inj eu).symm
    have ev' : v' = v := by
      have ev : ws.toArray[i]? = some v' := ev
      rw [show ws.toArray[i]? = some v by simpa using hv] at ev; exact (Option.some.inj ev).symm
    subst eu' ev'
    refine ⟨_, rfl, wpAny_letOwnedTupleGo_zip (s := { s with heap := g, toks := tk }) z' fun g2 zz sb => ?_⟩
    have hT2 : g2.get? s.heap.objs.size = some { cls := .type "tuple", data := .seq #[u', v'] } := (sb.2 _ (Nat.ne_of_gt lz)).trans hT
    have made : ObjOk X.prog X.w (upd H s.heap.objs.size (.tup [x, y])) g2 s.heap.objs.size (.tup [x, y]) := ⟨by show 2 ≤ sizeLine; decide, [u', v'], .cons ru (.cons rv' .nil), ⟨_, hT2, rfl, _, rfl⟩⟩
    have J : Inv X pins σ (upd H s.heap.objs.size (.tup [x, y])) { s with heap := g2, toks := tk } := by
      refine I.turnedNew (ch := [z, TI, TO, i1, i2]) (fun c o hb q => ?_) hf (Nat.le_refl _) made
      have n : ∀ d, d ∈ [z, TI, TO, i1, i2] → c ≠ d := fun d hd e => hb (e ▸ hd)
      exact (sb.2 c (n z (by simp))).trans (hk c o (n z (by simp)) (n TO (by simp)) (n i1 (by simp)) (n i2 (by simp)) q)
    refine ⟨.ref s.heap.objs.size, _, J, rfl, ⟨_, x, y, rfl, I.hok.fresh (Nat.le_refl _), rfl, ?_, ?_⟩, ⟨zz, ?_, ⟨u', v', ?_⟩, ?_, ?_⟩, fun c hcm => ?_⟩
    · intro l hl; rw [I.tuple_inj hl hqx]; exact hx
    · intro l hl; rw [I.list_inj hl hqy]; exact hy
    · exact (sb.2 _ D.TIz).trans (hk _ _ D.TIz D.TITO D.TIi1 D.TIi2 hTI)
    · exact (sb.2 _ D.TOz).trans TO'
    · exact s1'.1.at fun o q => (sb.2 _ D.zi1.symm).trans q
    · exact s2'.1.at fun o q => (sb.2 _ D.zi2.symm).trans q
    · have lt : c < s.heap.objs.size := by
        rcases five hcm with rfl | rfl | rfl | rfl | rfl
        · exact lz
        · exact Heap.lt_size hTI
        · exact Heap.lt_size hTO
        · exact let ⟨_, e1, _⟩ := h1; Heap.lt_size e1
        · exact let ⟨_, e2, _⟩ := h2; Heap.lt_size e2
      rw [upd_ne (Nat.ne_of_lt lt)]
      exact (hf c hcm).1
  done := by
    intro X hP hw hK hc i pins s σ H E I hf st hg
    subst hP hw hK
    obtain ⟨hz, hTI, ⟨x0, y0, hTO⟩, h1, h2⟩ := st
    obtain ⟨xs, ys, hqx, hqy, stop⟩ := hg
    obtain ⟨us, rv, p, _⟩ := I.tuple hqx
    obtain ⟨ws, rv2, p2, _⟩ := I.list hqy
    have l1 := rv.length
    have l2 := rv2.length
    have hh1 : X.A.in1.handled = none := I.ok.hd hc
    have back : ∀ (g : Heap) (tk : Nat), (∀ c o, c ≠ z → c ≠ TO → c ≠ i1 → c ≠ i2 → s.heap.get? c = some o → g.get? c = some o) → (none : Option Value) = none ∧ Inv X pins σ H { s with heap := g, toks := tk } := fun g tk hk => by
      refine ⟨rfl, I.turnedL (t' := tk) (ch := [z, TI, TO, i1, i2]) (fun c o hb q => ?_) hf⟩
      have n : ∀ d, d ∈ [z, TI, TO, i1, i2] → c ≠ d := fun d hd e => hb (e ▸ hd)
      exact hk c o (n z (by simp)) (n TO (by simp)) (n i1 (by simp)) (n i2 (by simp)) q
    cases q1 : us.toArray[i]? with
    | none =>
      have D1 := draws_out (prog := X.prog) (w := X.w) (A := X.A.in1) hh1 i1 a us.toArray i q1
      cases q2 : ws.toArray[i]? with
      | none => exact wpAny_pyNext_zipD2_end D D1 (draws_outL (prog := X.prog) (w := X.w) (A := X.A.in1) hh1 i2 b ws.toArray i q2) hz hTI hTO ⟨rfl, h1, p⟩ ⟨rfl, h2, p2.isList⟩ (Nat.le_refl _) (Nat.le_refl _) (.inl rfl) back
      | some v =>
        have l : i < ws.toArray.size := (Array.getElem?_eq_some_iff.mp q2).1
        exact wpAny_pyNext_zipD2_end D D1 (Draws.list (prog := X.prog) (w := X.w) (A := X.A.in1) hh1 i2 b nb ws.toArray) hz hTI hTO ⟨rfl, h1, p⟩ ⟨h2, p2.isList⟩ (Nat.le_refl _) (Nat.le_of_lt l) (.inl rfl) back
    | some u =>
      have l : i < us.toArray.size := (Array.getElem?_eq_some_iff.mp q1).1
      have q2 : ws.toArray[i]? = none := by
        have e1 : us.toArray.size = us.length := rfl
        rw [Array.getElem?_eq_none_iff]
        show ws.length ≤ i
        omega
      exact wpAny_pyNext_zipD2_end D (Draws.tuple (prog := X.prog) (w := X.w) (A := X.A.in1) hh1 i1 a na us.toArray) (draws_outL (prog := X.prog) (w := X.w) (A := X.A.in1) hh1 i2 b ws.toArray i q2) hz hTI hTO ⟨h1, p⟩ ⟨rfl, h2, p2.isList⟩ (Nat.le_of_lt l) (Nat.le_refl _) (.inr rfl) back
  self := fun A i s Q E st h => wpAny_pyIter_zip st.hz h
def iZipB (K : PySem.W.Frag) (ta : TA) : TI := fun σ H R => ta σ H fun vs H1 => ∃ a b, ∃ xs ys : List V, vs = [.ref a, .ref b] ∧
  ((SqL K H1 a xs ∧ SqL K H1 b ys ∧ R (Itz K a b) H1) ∨ (SqT K H1 a xs ∧ SqT K H1 b ys ∧ R (RZ.ItzT K a b) H1) ∨ SqT K H1 a xs ∧ SqL K H1 b ys ∧ R (ItzM K a b) H1)
theorem pi_zipB {X : Cx} {e e2 : Expr} {ta : TA} {p pos tpos : Pos} {elts : List Expr} {kk : Nat} (hg : Gl X "zip") (hm : X.mg "zip" = none) (ha : PA X [e, e2] ta)
    (hs : starEach [e, e2] X.env = (false, eval e X.env) :: starEach [e2] X.env := by rfl) (hpl : (backTo pos (starEach [e2] X.env)).any (·.1) = false := by rfl) : PI X (.Tuple elts kk tpos) (.Call (.Name "zip" p) [e, e2] [] pos) (iZipB X.K ta) := by
  constructor
  intro pins s σ H R I h
  refine PyProof.Rows.Call_ (ld_blt I hg hm PyProof.Rows.boot_zip (PyProof.Rows.callWith_type1 (thn (ha.run pos pins s σ H _ I h) ?_) hs hpl))
  rintro us s1 ⟨vs, H1, I1, r1, a, b, xs, ys, rfl, q⟩
  match us, r1 with
  | [_, _], .cons ra (.cons rb .nil) =>
    cases ra
    cases rb
    have fr : ∀ N, N = s1.heap.objs.size → ∀ c, c ∈ [N + 4, N + 2, N + 3, N, N + 1] → FpOk X pins H1 c := fun N e c hc => by
      have le : N ≤ c := by rcases five hc with rfl | rfl | rfl | rfl | rfl <;> omega
      exact I1.fpOk (e ▸ le) (I1.hok.fresh (e ▸ le))
    rcases q with ⟨qa, qb, q⟩ | ⟨qa, qb, q⟩ | ⟨qa, qb, q⟩
    · obtain ⟨ws, _, p1, _⟩ := I1.list qa
      obtain ⟨zs, _, p2, _⟩ := I1.list qb
      refine call_zip_2 p1.isList p2.isList fun g hz hTI hTO h1 h2 _ hk => wpAny_pyIter_zip hz ?_
      exact ⟨_, _, _, _, H1, rfl, I1.kept (t' := s1.toks) hk, turn_zip (PySem.W.ktu_apart s1.heap.objs.size a b p1.lt p2.lt), ⟨hz, hTI, ⟨_, _, hTO⟩, h1, h2⟩, fr _ rfl, q⟩
    · obtain ⟨ws, _, p1, _⟩ := I1.tuple qa
      obtain ⟨zs, _, p2, _⟩ := I1.tuple qb
      have la : a < s1.heap.objs.size := let ⟨_, e, _⟩ := id p1; Heap.lt_size e
      have lb : b < s1.heap.objs.size := let ⟨_, e, _⟩ := id p2; Heap.lt_size e
      have t1 : s1.heap.IsTuple a ws.toArray := p1
      have t2 : s1.heap.IsTuple b zs.toArray := p2
      refine RZ.call_zipT t1 t2 fun g hz hTI hTO h1 h2 _ hk => wpAny_pyIter_zip hz ?_
      exact ⟨_, _, _, _, H1, rfl, I1.kept (t' := s1.toks) hk, RZ.turn_zipT (PySem.W.ktu_apart s1.heap.objs.size a b la lb), ⟨hz, hTI, ⟨_, _, hTO⟩, h1, h2⟩, fr _ rfl, q⟩
    · obtain ⟨ws, _, p1, _⟩ := I1.tuple qa
      obtain ⟨zs, _, p2, _⟩ := I1.list qb
      have la : a < s1.heap.objs.size := let ⟨_, e, _⟩ := id p1; Heap.lt_size e
      have lb : b < s1.heap.objs.size := p2.lt
      refine zip_begins2 (begins_tuple a ws.toArray) (begins_list b zs.toArray) p1 p2.isList fun g hz hTI hTO h1 h2 _ hk => wpAny_pyIter_zip hz ?_
      have D := zip_sep2 (N := s1.heap.objs.size) (fp1 := [a]) (fp2 := [b]) (fun c hc => by rw [List.mem_singleton.mp hc]; exact la) (fun c hc => by rw [List.mem_singleton.mp hc]; exact lb)
      exact ⟨_, _, _, _, H1, rfl, I1.kept (t' := s1.toks) hk, turn_zipM D (Nat.ne_of_lt la) (Nat.ne_of_lt (Nat.lt_succ_of_lt lb)), ⟨hz, hTI, ⟨_, _, hTO⟩, ⟨_, h1, rfl, rfl⟩, ⟨_, h2, rfl, rfl⟩⟩, fr _ rfl, q⟩
/-! ### by data -/
section
variable {S : Sg}
theorem enumD_get : ∀ {xs : List D} {n i : Nat} {y : D}, (enumD n xs)[i]? = some y → ∃ d, xs[i]? = some d ∧ y = .tup [.int ((n + i : Nat) : Int), d]
  | [], _, _, _, h => by simp [enumD] at h
  | x :: xs, n, 0, y, h => by
    have h : D.tup [.int (n : Int), x] = y := by simpa [enumD] using h
    exact ⟨x, by simp, h.symm⟩
  | x :: xs, n, i + 1, y, h => by
    have h : (enumD (n + 1) xs)[i]? = some y := by simpa [enumD] using h
    obtain ⟨d, h1, h2⟩ := enumD_get h
    exact ⟨d, by simpa using h1, by rw [h2]; congr 4; omega⟩
theorem enumD_len : ∀ {xs : List D} {n : Nat}, (enumD n xs).length = xs.length
  | [], _ => rfl
  | x :: xs, n => by simp [enumD, enumD_len (xs := xs)]
/-- a new pair -/
theorem pair_new {Z F H : Hp} {env : Ev} {σ : L2.St} {T : Addr} {d e : D} {x y : V} (s : SR S Z F env σ H) (hT : H T = none) (r1 : Rep S F d x) (r2 : Rep S F e y) :
    ∃ F3, Same F F3 ∧ SR S Z F3 env σ (upd H T (.tup [x, y])) ∧ Rep S F3 (.tup [d, e]) (.ref T) := by
  have e1 : Same F (upd F T (.tup [x, y])) := same_new (fresh_F s hT)
  exact ⟨upd F T (.tup [x, y]), e1, sr_newF s hT, ⟨T, [x, y], rfl, SqT.of upd_same, Reps.cons (r1.mono e1) (Reps.one (r2.mono e1))⟩⟩
theorem wlk_enumL {Z F H : Hp} {env : Ev} {σ : L2.St} {r : RR} {v : V} {xs : List D} {a : Addr} (q : RRel S Z F H σ env r v) (s : SR S Z F env σ H) (ev : v = .ref a) : Wlk S (Zx Z H r v) F [(r, .lst xs)] (enumD 0 xs) σ (Ite S.K a) := by
  intro Z2 i F2 env2 σ2 H2 le e s2 hσ c
  have rd := later_rr q e (sr_weak le s2) (fun k hk => hσ (r, .lst xs) (by simp) k hk) (c (r, .lst xs) (by simp))
  obtain ⟨a', ys, e1, h1, h2⟩ := rd.lst s2.same
  subst ev
  cases e1
  refine ⟨fun hi => ⟨ys, SqL.of h1, by rw [h2.length, ← enumD_len (xs := xs) (n := 0)]; exact hi⟩, fun y hy => ?_⟩
  obtain ⟨d, g1, rfl⟩ := enumD_get hy
  obtain ⟨w, h3, h4⟩ := h2.get g1
  refine ⟨⟨ys, w, SqL.of h1, h3⟩, fun x H3 hx => ?_⟩
  obtain ⟨T, x', rfl, hT, rfl, hx⟩ := hx
  have h5 := hx ys (SqL.of h1)
  rw [h3] at h5; cases h5
  rw [Nat.zero_add]
  exact pair_new s2 hT rfl h4
theorem wlk_enumT {Z F H : Hp} {env : Ev} {σ : L2.St} {r : RR} {v : V} {d0 : D} {xs : List D} {a : Addr} (q : RRel S Z F H σ env r v) (s : SR S Z F env σ H) (hd : d0 = .tup xs ∨ d0 = .tpn xs) (ev : v = .ref a) : Wlk S (Zx Z H r v) F [(r, d0)] (enumD 0 xs) σ (Itet S.K a) := by
  intro Z2 i F2 env2 σ2 H2 le e s2 hσ c
  have rd := later_rr q e (sr_weak le s2) (fun k hk => hσ (r, d0) (by simp) k hk) (c (r, d0) (by simp))
  obtain ⟨a', ys, e1, h1, h2⟩ : ∃ a ys, v = .ref a ∧ SqT S.K H2 a ys ∧ Reps S F2 xs ys := by
    rcases hd with rfl | rfl
    · exact rd.tup s2.same
    · obtain ⟨a, ys, e, _, h⟩ := rd.tpn s2.same; exact ⟨a, ys, e, h⟩
  subst ev
  cases e1
  refine ⟨fun hi => ⟨ys, h1, by rw [h2.length, ← enumD_len (xs := xs) (n := 0)]; exact hi⟩, fun y hy => ?_⟩
  obtain ⟨d, g1, rfl⟩ := enumD_get hy
  obtain ⟨w, h3, h4⟩ := h2.get g1
  refine ⟨⟨ys, w, h1, h3⟩, fun x H3 hx => ?_⟩
  obtain ⟨T, x', rfl, hT, rfl, hx⟩ := hx
  have h5 := hx ys h1
  rw [h3] at h5; cases h5
  rw [Nat.zero_add]
  exact pair_new s2 hT rfl h4
theorem RI.enum {t : TE} {w : WR} (h : RS S t w) : RI S (iEnumA S.K (tCons t tNil)) (fun env Q => w env fun r e1 => rdK e1 r fun d => match d with
    | .lst xs => Q [(r, .lst xs)] (enumD 0 xs) e1
    | .tup xs => Q [(r, .tup xs)] (enumD 0 xs) e1
    | .tpn xs => Q [(r, .tpn xs)] (enumD 0 xs) e1
    | _ => False) := by
  intro Z F env σ H Q R s hw k
  refine h Z F env σ H _ _ s hw fun F1 H1 x r1 e1 q1 s1 i1 rr1 => ?_
  obtain ⟨d1, g1, q1⟩ := rdK_some q1
  have rd := now_rr i1 rr1 g1
  cases d1 with
  | lst xs =>
    obtain ⟨a, ys, ev, h1, h2⟩ := rd.lst i1.same
    exact ⟨a, ys, by rw [ev], .inl ⟨SqL.of h1, k _ F1 H1 _ _ e1 _ q1 (zx_le rr1) s1 (zx_sr i1 rr1) (wlk_enumL rr1 i1 ev)⟩⟩
  | tup xs =>
    obtain ⟨a, ys, ev, h1, h2⟩ := rd.tup i1.same
    exact ⟨a, ys, by rw [ev], .inr ⟨h1, k _ F1 H1 _ _ e1 _ q1 (zx_le rr1) s1 (zx_sr i1 rr1) (wlk_enumT rr1 i1 (.inl rfl) ev)⟩⟩
  | tpn xs =>
    obtain ⟨a, ys, ev, _, h1, h2⟩ := rd.tpn i1.same
    exact ⟨a, ys, by rw [ev], .inr ⟨h1, k _ F1 H1 _ _ e1 _ q1 (zx_le rr1) s1 (zx_sr i1 rr1) (wlk_enumT rr1 i1 (.inr rfl) ev)⟩⟩
  | _ => exact q1.elim
/-- a row, read now -/
def seqOf (K : PySem.W.Frag) (H : Hp) (d : D) (a : Addr) (ys : List V) : Prop := match d with
  | .lst _ => SqL K H a ys
  | _ => SqT K H a ys
theorem seq_rd {Z F H : Hp} {env : Ev} {σ : L2.St} {d : D} {xs : List D} {v : V} (s : SR S Z F env σ H) (hd : d = .lst xs ∨ d = .tup xs ∨ d = .tpn xs) (r : Rd S F H d v) : ∃ a ys, v = .ref a ∧ seqOf S.K H d a ys ∧ Reps S F xs ys := by
  rcases hd with rfl | rfl | rfl
  · obtain ⟨a, ys, e, h1, h2⟩ := r.lst s.same; exact ⟨a, ys, e, SqL.of h1, h2⟩
  · exact r.tup s.same
  · obtain ⟨a, ys, e, _, h⟩ := r.tpn s.same; exact ⟨a, ys, e, h⟩
theorem zip_get {xs ys : List D} {i : Nat} {y : D} (h : (List.zipWith (fun x y => D.tup [x, y]) xs ys)[i]? = some y) : ∃ d e, xs[i]? = some d ∧ ys[i]? = some e ∧ y = .tup [d, e] := by
  rw [List.getElem?_zipWith] at h
  cases h1 : xs[i]? with
  | none => rw [h1] at h; simp at h
  | some d =>
    cases h2 : ys[i]? with
    | none => rw [h1, h2] at h; simp at h
    | some e => rw [h1, h2] at h; exact ⟨d, e, rfl, rfl, (Option.some.inj h).symm⟩
theorem zip_end {xs ys : List D} {i : Nat} (h : (List.zipWith (fun x y => D.tup [x, y]) xs ys).length ≤ i) : xs.length ≤ i ∨ ys.length ≤ i := by
  rw [List.length_zipWith] at h
  omega
theorem RI.zip {ta tb : TE} {wa wb : WR} (ha : RS S ta wa) (hb : RS S tb wb) : RI S (iZipB S.K (tCons ta (tCons tb tNil))) (fun env Q => wa env fun r1 e1 => wb e1 fun r2 e2 => rdK e2 r1 fun d1 => rdK e2 r2 fun d2 => match d1, d2 with
    | .lst xs, .lst ys => Q [(r1, .lst xs), (r2, .lst ys)] (List.zipWith (fun x y => .tup [x, y]) xs ys) e2
    | .tup xs, .tup ys => Q [(r1, .tup xs), (r2, .tup ys)] (List.zipWith (fun x y => .tup [x, y]) xs ys) e2
    | .tpn xs, .tup ys => Q [(r1, .tpn xs), (r2, .tup ys)] (List.zipWith (fun x y => .tup [x, y]) xs ys) e2
    | .tpn xs, .lst ys => Q [(r1, .tpn xs), (r2, .lst ys)] (List.zipWith (fun x y => .tup [x, y]) xs ys) e2
    | .tup xs, .lst ys => Q [(r1, .tup xs), (r2, .lst ys)] (List.zipWith (fun x y => .tup [x, y]) xs ys) e2
    | .tup xs, .tpn ys => Q [(r1, .tup xs), (r2, .tpn ys)] (List.zipWith (fun x y => .tup [x, y]) xs ys) e2
    | .tpn xs, .tpn ys => Q [(r1, .tpn xs), (r2, .tpn ys)] (List.zipWith (fun x y => .tup [x, y]) xs ys) e2
    | _, _ => False) := by
  intro Z F env σ H Q R s hw k
  refine ha Z F env σ H _ _ s hw fun F1 H1 v1 r1 e1 q1 s1 i1 rr1 => ?_
  refine hb _ F1 e1 σ H1 _ _ (zx_sr i1 rr1) q1 fun F2 H2 v2 r2 e2 q2 s2 i2 rr2 => ?_
  obtain ⟨d1, g1, q2⟩ := rdK_some q2
  obtain ⟨d2, g2, q2⟩ := rdK_some q2
  have rd1 := keep_rr rr1 s2 i2 g1
  have rd2 := now_rr i2 rr2 g2
  have le : ∀ a o, Z a = some o → Zx (Zx Z H1 r1 v1) H2 r2 v2 a = some o := fun a o z => zx_le rr2 a o (zx_le rr1 a o z)
  -- the walk, by what both are
  have later : ∀ (xs ys : List D) (Z3 F3 : Hp) (env3 : Ev) (σ3 : L2.St) (H3 : Hp), (d1 = .lst xs ∨ d1 = .tup xs ∨ d1 = .tpn xs) → (d2 = .lst ys ∨ d2 = .tup ys ∨ d2 = .tpn ys) → (∀ a o, Zx (Zx Z H1 r1 v1) H2 r2 v2 a = some o → Z3 a = some o) → Same F2 F3 → SR S Z3 F3 env3 σ3 H3 →
      (∀ p ∈ [(r1, d1), (r2, d2)], ∀ k, p.1 = .sl k → σ3[k]? = σ[k]?) → chk [(r1, d1), (r2, d2)] env3 → (∃ a us, v1 = .ref a ∧ seqOf S.K H3 d1 a us ∧ Reps S F3 xs us) ∧ ∃ b ws, v2 = .ref b ∧ seqOf S.K H3 d2 b ws ∧ Reps S F3 ys ws := by
    intro xs ys Z3 F3 env3 σ3 H3 x1 x2 le3 e3 s3 hσ c
    refine ⟨?_, ?_⟩
    · exact seq_rd s3 x1 (later_rr rr1 (s2.trans e3) (sr_weak (fun a o z => le3 a o (zx_le rr2 a o z)) s3) (fun k hk => hσ (r1, d1) (by simp) k hk) (c (r1, d1) (by simp)))
    · exact seq_rd s3 x2 (later_rr rr2 e3 (sr_weak le3 s3) (fun k hk => hσ (r2, d2) (by simp) k hk) (c (r2, d2) (by simp)))
  have tupW : ∀ (xs ys : List D) (a b : Addr), v1 = .ref a → v2 = .ref b → (d1 = .tup xs ∨ d1 = .tpn xs) → (d2 = .tup ys ∨ d2 = .tpn ys) → Wlk S (Zx (Zx Z H1 r1 v1) H2 r2 v2) F2 [(r1, d1), (r2, d2)] (List.zipWith (fun x y => .tup [x, y]) xs ys) σ (RZ.ItzT S.K a b) := by
    intro xs ys a b ea eb x1 x2 Z3 i F3 env3 σ3 H3 le3 e3 s3 hσ c
    obtain ⟨⟨a', us, e1', h1, h2⟩, b', ws, e2', h3, h4⟩ := later xs ys Z3 F3 env3 σ3 H3 (.inr x1) (.inr x2) le3 e3 s3 hσ c
    rw [ea] at e1'; cases e1'
    rw [eb] at e2'; cases e2'
    have t1 : SqT S.K H3 a us := by rcases x1 with rfl | rfl <;> exact h1
    have t2 : SqT S.K H3 b ws := by rcases x2 with rfl | rfl <;> exact h3
    refine ⟨fun hi => ⟨us, ws, t1, t2, by rw [h2.length, h4.length]; exact zip_end hi⟩, fun y hy => ?_⟩
    obtain ⟨d, e, p1, p2, rfl⟩ := zip_get hy
    obtain ⟨u, p3, p4⟩ := h2.get p1
    obtain ⟨w, p5, p6⟩ := h4.get p2
    refine ⟨⟨us, ws, u, w, t1, t2, p3, p5⟩, fun x H4 hx => ?_⟩
    obtain ⟨T, x', y', rfl, hT, rfl, hx, hy'⟩ := hx
    have z1 := hx us t1
    have z2 := hy' ws t2
    rw [p3] at z1; cases z1
    rw [p5] at z2; cases z2
    exact pair_new s3 hT p4 p6
  have mixW : ∀ (xs ys : List D) (a b : Addr), v1 = .ref a → v2 = .ref b → (d1 = .tup xs ∨ d1 = .tpn xs) → d2 = .lst ys → Wlk S (Zx (Zx Z H1 r1 v1) H2 r2 v2) F2 [(r1, d1), (r2, d2)] (List.zipWith (fun x y => .tup [x, y]) xs ys) σ (ItzM S.K a b) := by
    intro xs ys a b ea eb x1 x2 Z3 i F3 env3 σ3 H3 le3 e3 s3 hσ c
    obtain ⟨⟨a', us, e1', h1, h2⟩, b', ws, e2', h3, h4⟩ := later xs ys Z3 F3 env3 σ3 H3 (.inr x1) (.inl x2) le3 e3 s3 hσ c
    rw [ea] at e1'; cases e1'
    rw [eb] at e2'; cases e2'
    have t1 : SqT S.K H3 a us := by rcases x1 with rfl | rfl <;> exact h1
    have t2 : SqL S.K H3 b ws := by subst x2; exact h3
    refine ⟨fun hi => ⟨us, ws, t1, t2, by rw [h2.length, h4.length]; exact zip_end hi⟩, fun y hy => ?_⟩
    obtain ⟨d, e, p1, p2, rfl⟩ := zip_get hy
    obtain ⟨u, p3, p4⟩ := h2.get p1
    obtain ⟨w, p5, p6⟩ := h4.get p2
    refine ⟨⟨us, ws, u, w, t1, t2, p3, p5⟩, fun x H4 hx => ?_⟩
    obtain ⟨T, x', y', rfl, hT, rfl, hx, hy'⟩ := hx
    have z1 := hx us t1
    have z2 := hy' ws t2
    rw [p3] at z1; cases z1
    rw [p5] at z2; cases z2
    exact pair_new s3 hT p4 p6
  have lstW : ∀ (xs ys : List D) (a b : Addr), v1 = .ref a → v2 = .ref b → d1 = .lst xs → d2 = .lst ys → Wlk S (Zx (Zx Z H1 r1 v1) H2 r2 v2) F2 [(r1, d1), (r2, d2)] (List.zipWith (fun x y => .tup [x, y]) xs ys) σ (Itz S.K a b) := by
    intro xs ys a b ea eb x1 x2 Z3 i F3 env3 σ3 H3 le3 e3 s3 hσ c
    obtain ⟨⟨a', us, e1', h1, h2⟩, b', ws, e2', h3, h4⟩ := later xs ys Z3 F3 env3 σ3 H3 (.inl x1) (.inl x2) le3 e3 s3 hσ c
    rw [ea] at e1'; cases e1'
    rw [eb] at e2'; cases e2'
    have t1 : SqL S.K H3 a us := by subst x1; exact h1
    have t2 : SqL S.K H3 b ws := by subst x2; exact h3
    refine ⟨fun hi => ⟨us, ws, t1, t2, by rw [h2.length, h4.length]; exact zip_end hi⟩, fun y hy => ?_⟩
    obtain ⟨d, e, p1, p2, rfl⟩ := zip_get hy
    obtain ⟨u, p3, p4⟩ := h2.get p1
    obtain ⟨w, p5, p6⟩ := h4.get p2
    refine ⟨⟨us, ws, u, w, t1, t2, p3, p5⟩, fun x H4 hx => ?_⟩
    obtain ⟨T, x', y', rfl, hT, rfl, hx, hy'⟩ := hx
    have z1 := hx us t1
    have z2 := hy' ws t2
    rw [p3] at z1; cases z1
    rw [p5] at z2; cases z2
    exact pair_new s3 hT p4 p6
  cases d1 with
  | lst xs =>
    cases d2 with
    | lst ys =>
      obtain ⟨a, us, rfl, h1, h2⟩ := rd1.lst i2.same
      obtain ⟨b, ws, rfl, h3, h4⟩ := rd2.lst i2.same
      exact ⟨a, b, us, ws, rfl, .inl ⟨SqL.of h1, SqL.of h3, k _ F2 H2 _ _ e2 _ q2 le (s1.trans s2) (zx_sr i2 rr2) (lstW xs ys a b rfl rfl rfl rfl)⟩⟩
    | _ => exact q2.elim
  | tup xs =>
    cases d2 with
    | lst ys =>
      obtain ⟨a, us, rfl, h1, h2⟩ := rd1.tup i2.same
      obtain ⟨b, ws, rfl, h3, h4⟩ := rd2.lst i2.same
      exact ⟨a, b, us, ws, rfl, .inr (.inr ⟨h1, SqL.of h3, k _ F2 H2 _ _ e2 _ q2 le (s1.trans s2) (zx_sr i2 rr2) (mixW xs ys a b rfl rfl (.inl rfl) rfl)⟩)⟩
    | tup ys =>
      obtain ⟨a, us, rfl, h1, h2⟩ := rd1.tup i2.same
      obtain ⟨b, ws, rfl, h3, h4⟩ := rd2.tup i2.same
      exact ⟨a, b, us, ws, rfl, .inr (.inl ⟨h1, h3, k _ F2 H2 _ _ e2 _ q2 le (s1.trans s2) (zx_sr i2 rr2) (tupW xs ys a b rfl rfl (.inl rfl) (.inl rfl))⟩)⟩
    | tpn ys =>
      obtain ⟨a, us, rfl, h1, h2⟩ := rd1.tup i2.same
      obtain ⟨b, ws, rfl, _, h3, h4⟩ := rd2.tpn i2.same
      exact ⟨a, b, us, ws, rfl, .inr (.inl ⟨h1, h3, k _ F2 H2 _ _ e2 _ q2 le (s1.trans s2) (zx_sr i2 rr2) (tupW xs ys a b rfl rfl (.inl rfl) (.inr rfl))⟩)⟩
    | _ => exact q2.elim
  | tpn xs =>
    cases d2 with
    | lst ys =>
      obtain ⟨a, us, rfl, _, h1, h2⟩ := rd1.tpn i2.same
      obtain ⟨b, ws, rfl, h3, h4⟩ := rd2.lst i2.same
      exact ⟨a, b, us, ws, rfl, .inr (.inr ⟨h1, SqL.of h3, k _ F2 H2 _ _ e2 _ q2 le (s1.trans s2) (zx_sr i2 rr2) (mixW xs ys a b rfl rfl (.inr rfl) rfl)⟩)⟩
    | tup ys =>
      obtain ⟨a, us, rfl, _, h1, h2⟩ := rd1.tpn i2.same
      obtain ⟨b, ws, rfl, h3, h4⟩ := rd2.tup i2.same
      exact ⟨a, b, us, ws, rfl, .inr (.inl ⟨h1, h3, k _ F2 H2 _ _ e2 _ q2 le (s1.trans s2) (zx_sr i2 rr2) (tupW xs ys a b rfl rfl (.inr rfl) (.inl rfl))⟩)⟩
    | tpn ys =>
      obtain ⟨a, us, rfl, _, h1, h2⟩ := rd1.tpn i2.same
      obtain ⟨b, ws, rfl, _, h3, h4⟩ := rd2.tpn i2.same
      exact ⟨a, b, us, ws, rfl, .inr (.inl ⟨h1, h3, k _ F2 H2 _ _ e2 _ q2 le (s1.trans s2) (zx_sr i2 rr2) (tupW xs ys a b rfl rfl (.inr rfl) (.inr rfl))⟩)⟩
    | _ => exact q2.elim
  | _ => exact q2.elim
end
end PV

/-! PV: len(set(texts)). -/
namespace PV
open PySem PySem.Spec PyProof.Rows L2

theorem snoc_ind {α : Type} {P : List α → Prop} (h0 : P []) (h1 : ∀ l x, P l → P (l ++ [x])) (l : List α) : P l := by
  have key : ∀ m : List α, P m.reverse := by
    intro m
    induction m with
    | nil => exact h0
    | cons x m ih => rw [List.reverse_cons]; exact h1 _ x ih
  have := key l.reverse
  rwa [List.reverse_reverse] at this
section
variable {κ : Type} [BEq κ] [LawfulBEq κ]
theorem dst_snoc (l : List κ) (x : κ) : dst (l ++ [x]) = if (dst l).any (· == x) = true then dst l else dst l ++ [x] := by
  unfold dst
  rw [List.foldl_append]
  rfl
theorem dst_any (l : List κ) (x : κ) : (dst l).any (· == x) = l.any (· == x) := by
  refine snoc_ind (P := fun l => (dst l).any (· == x) = l.any (· == x)) rfl (fun l y ih => ?_) l
  rw [dst_snoc, List.any_append]
  split
  · rename_i h
    rw [ih]
    by_cases e : y = x
    · subst e
      rw [ih] at h
      simp [h]
    · have : (y == x) = false := beq_eq_false_iff_ne.mpr e
      simp [this]
  · rw [List.any_append, ih]
theorem dst_len (l : List κ) : (dst l).length ≤ l.length := by
  refine snoc_ind (P := fun l => (dst l).length ≤ l.length) (Nat.le_refl _) (fun l y ih => ?_) l
  rw [dst_snoc]
  split <;> simp <;> omega
end
section
variable {κ : Type} [DecidableEq κ] [BEq κ] [LawfulBEq κ]
variable {prog : Program} {w : World} {A : Around} {R : Result → Shared → Prop} {I : Addr} {fp wr : List Addr} {G : Array GenState → Array GenState → Prop} {n : Nat} {P : Nat → Value → Prop} {St : Nat → Shared → Prop}
/-- texts, one by one, into a set -/
theorem into_set (knd : PySem.KeyKind prog w κ) (W : WalksS prog w A.in1 I fp wr G n P St) (D : Addr) (hD : D ∉ fp) (ys : List κ) (hn : ys.length = n) (few : n + 1 < scanBound) (val : ∀ i v, P i v → ∃ y, ys[i]? = some y ∧ knd.is y v = true ∧ v.scannable = true) :
    ∀ (left i : Nat) (s : Shared), n - i = left → i ≤ n → St i s → s.heap.SetOf knd D (fun z => (ys.take i).any (· == z)) (dst (ys.take i)).length →
      (∀ s2, Moved (D :: wr) G s s2 → s2.heap.SetOf knd D (fun z => (ys.take n).any (· == z)) (dst (ys.take n)).length → R (.ok (.ret .none)) s2) →
      codeAny (model prog w) A (.builtin "set.update.loop" ⟨[.ref D, .ref I], []⟩) R s := by
  have Dw : D ∉ wr := fun z => hD (W.sub _ z)
  have more : ∀ b ∈ wr, b ∈ D :: wr := fun b z => List.mem_cons_of_mem _ z
  intro left
  induction left with
  | zero =>
    intro i s e hi hst hS fin
    cases (show i = n by omega)
    refine codeAny_builtin F.entry_set_update_loop ?_
    rw [Around.under_plainId F.plain_set_update_loop _]
    show wpAny _ A.in1 (pyNext (.ref I) >>= _) _ _ s
    refine wpAny_bind (W.done s _ _ hst fun s2 mv => ?_)
    have z : s2.heap.SetOf knd D (fun z => (ys.take n).any (· == z)) (dst (ys.take n)).length := by
      obtain ⟨o, es, ep, tb, ho, r⟩ := hS
      exact ⟨o, es, ep, tb, mv.heap D _ Dw ho, r⟩
    show wpAny _ A.in1 (ret Value.none) _ _ s2
    exact wpAny_pure (fin s2 (mv.mono more) z)
  | succ left ih =>
    intro i s e hi hst hS fin
    have lt : i < n := by omega
    refine codeAny_builtin F.entry_set_update_loop ?_
    rw [Around.under_plainId F.plain_set_update_loop _]
    show wpAny _ A.in1 (pyNext (.ref I) >>= _) _ _ s
    refine wpAny_bind (W.item i s _ _ lt hst fun v s1 pv st1 mv => ?_)
    obtain ⟨y, hy, hk, hsc⟩ := val i v pv
    have S1 : s1.heap.SetOf knd D (fun z => (ys.take i).any (· == z)) (dst (ys.take i)).length := by
      obtain ⟨o, es, ep, tb, ho, r⟩ := hS
      exact ⟨o, es, ep, tb, mv.heap D _ Dw ho, r⟩
    have room : (dst (ys.take i)).length + 1 < scanBound := by
      have a := dst_len (ys.take i)
      rw [List.length_take] at a
      omega
    have tk : ys.take (i + 1) = ys.take i ++ [y] := by rw [List.take_add_one, hy]; rfl
    show wpAny _ A.in1 (holding [v] (setAdd D v) >>= _) _ _ s1
    refine wpAny_bind (wpAny_holding ?_)
    unfold setAdd
    refine wpAny_holding (wpAny_bind (knd.pyHash (k := y) hk ?_))
    refine wpAny_setAddHashed_of (knd := knd) (s := { s1 with toks := s1.toks + 1 }) hk hsc S1 room fun h2 but S2 => ?_
    have S3 : h2.SetOf knd D (fun z => (ys.take (i + 1)).any (· == z)) (dst (ys.take (i + 1))).length := by
      refine SetOf_congr S2 (fun z => ?_) ?_
      · rw [tk, List.any_append]
        congr 1
        by_cases e : z = y
        · subst e; simp
        · have ne : (y == z) = false := beq_eq_false_iff_ne.mpr fun q => e q.symm
          simp [e, ne]
      · rw [tk, dst_snoc, dst_any]
        by_cases h : (ys.take i).any (· == y) = true
        · rw [if_pos h, if_pos h]
        · rw [if_neg h, if_neg h, List.length_append, List.length_singleton]
    refine wpAny_pure ⟨plainId_quiet F.plain_set_update_loop _, ih (i + 1) _ (by omega) lt (W.frame _ s1 _ _ st1 (Nat.le_succ _) fun b hb o q => ?_) S3 fun s3 mv3 S4 => ?_⟩
    · rw [but.2 b fun z => hD (z ▸ hb)]; exact q
    · refine fin s3 (Moved.trans W.gtrans ((mv.mono more).then_heap (Nat.le_succ _) fun b o hb q => ?_) mv3) S4
      rw [but.2 b fun z => hb (z ▸ List.mem_cons_self)]; exact q
end
section
variable {prog : Program} {w : World} {A : Around} {E : Value → Shared → Prop} {s : Shared}
theorem wants_of {Q : Value → Shared → Prop} {E : Value → Shared → Prop} {r : Result} {z : Shared} (h : wants Q E r z) : (∃ v, r = .ok (.ret v) ∧ Q v z) ∨ ∃ e, r = .error e ∧ E e z := by
  cases r with
  | error e => exact .inr ⟨e, rfl, h⟩
  | ok f =>
    cases f with
    | ret v => exact .inl ⟨v, rfl, h⟩
    | _ => exact h.elim
set_option maxHeartbeats 3200000 in
/-- set(a list of texts) -/
theorem set_of_keys {κ : Type} [DecidableEq κ] [BEq κ] [LawfulBEq κ] (knd : PySem.KeyKind prog w κ) {l : Addr} {items : Array Value} {ys : List κ} {Q : Value → Shared → Prop} (calm : A.handled = none) (isl : s.heap.IsList l items) (szs : ys.length = items.size) (val : ∀ (i : Nat) (v : Value), items[i]? = some v → ∃ y, ys[i]? = some y ∧ knd.is y v = true ∧ v.scannable = true) (few : ys.length + 1 < scanBound)
    (goal : ∀ (h2 : Heap) (tk : Nat), h2.SetOf knd s.heap.objs.size (fun z => ys.any (· == z)) (dst ys).length → (∀ b o, b < s.heap.objs.size → s.heap.get? b = some o → h2.get? b = some o) → Q (.ref s.heap.objs.size) { s with heap := h2, toks := tk }) :
    wpAny (model prog w) A (call (.type "set") [.ref l]) Q E s := by
  have tkall : ys.take items.size = ys := by rw [← szs, List.take_length]
  obtain ⟨mc, mt, hmro⟩ := PySem.F.called_set.mro
  have made := PySem.F.called_set.made
  have subc := PySem.F.called_set.sub
  refine wpAny_call (codeAny_of_tree ?_)
  show wpAny _ _ (callAny (.type "set") _) _ _ _
  refine wpAny_pure ⟨Code.quiet_builtin _ (by decide +kernel), codeAny_builtin PySem.F.entry_type_call ?_⟩
  rw [Around.under_plain (weight_type_call_type "set" [.ref l] []) rfl]
  have f1 := PySem.F.called_set.notType
  have f2 := PySem.F.called_set.canCreate
  have f3 := PySem.F.typeCall_set_1 (.ref l)
  repeat (any_goals (first | assumption | wp_step))
  refine codeAny_mono (code_set_new_1 (.ref l) (E := E) (Q₁ := fun obj z => ∃ led : Bool, obj = .ref s.heap.objs.size ∧ z = { s with heap := s.heap.push { cls := .type "set", dict := none, data := .set #[] 0 (.fresh 0 0 led) } }) fun led => ⟨led, rfl, rfl⟩) fun r z hr => ?_
  obtain ⟨obj, rfl, hr⟩ | ⟨e, rfl, hr⟩ := wants_of hr
  rotate_left
  · exact hr
  obtain ⟨led, rfl, rfl⟩ := hr
  have hS : (s.heap.push { cls := .type "set", dict := none, data := .set #[] 0 (.fresh 0 0 led) }).get? s.heap.objs.size = some { cls := .type "set", dict := none, data := .set #[] 0 (.fresh 0 0 led) } := Heap.get?_push_size _ rfl
  have isS : Shared.TypeIs { s with heap := s.heap.push { cls := .type "set", dict := none, data := .set #[] 0 (.fresh 0 0 led) } } (.ref s.heap.objs.size) "set" := ⟨_, hS, rfl⟩
  have g1 := PySem.F.called_set.init.lookup
  have g2 := PySem.F.called_set.init.bind (.ref s.heap.objs.size)
  repeat (any_goals (first | assumption | wp_step))
  refine codeAny_mono (codeAny_call_builtin (R := wants (fun r z => r = .none ∧ ∃ h2 tk, z = { s with heap := h2, toks := tk } ∧ h2.SetOf knd s.heap.objs.size (fun z => ys.any (· == z)) (dst ys).length ∧
      (∀ b o, b < s.heap.objs.size → s.heap.get? b = some o → h2.get? b = some o)) E) PySem.F.called_set.init.plain PySem.F.entry_set_init (check_set_init_1 isS ?_)) fun r2 z2 hr2 => ?_
  · obtain ⟨ol, hol, hcl, nl, hdl⟩ := isl
    obtain ⟨c1, c2, c3, c4⟩ := ol
    simp only at hcl hdl
    subst hcl hdl
    have here : (s.heap.push { cls := .type "set", dict := none, data := .set #[] 0 (.fresh 0 0 led) }).get? l = some { cls := .type "list", dict := c2, data := .seq items nl, slots := c4 } := Heap.get?_push_of_some _ hol
    have n1 := PySem.F.sub_list_set
    have n2 := PySem.F.sub_list_frozenset
    have n3 : (Value.type "list" == Value.type "dict") = false := by decide
    have isl1 : (s.heap.push { cls := .type "set", dict := none, data := .set #[] 0 (.fresh 0 0 led) }).IsList l items := ⟨_, here, rfl, nl, rfl⟩
    unfold Builtin.«set.__init__» noKeywords Builtin.Frozenset.updateFrom
    generalize eqP : pyIter = PP
    wp_walk
    subst eqP
    refine wpAny_pyIter_list isl1 (wpAny_bind (wpAny_runValue ?_))
    have lt : l < s.heap.objs.size := Heap.lt_size hol
    have c3 : A.in1.in1.in1.handled = none := by simp [calm]
    have sz1 : (s.heap.push { cls := .type "set", dict := none, data := .set #[] 0 (.fresh 0 0 led) }).objs.size = s.heap.objs.size + 1 := Heap.size_push ..
    have ne1 : l ≠ (s.heap.push { cls := .type "set", dict := none, data := .set #[] 0 (.fresh 0 0 led) }).objs.size := by
      rw [sz1]; exact Nat.ne_of_lt (Nat.lt_succ_of_lt lt)
    have out : s.heap.objs.size ∉ [(s.heap.push { cls := .type "set", dict := none, data := .set #[] 0 (.fresh 0 0 led) }).objs.size, l] := by
      rw [sz1]
      simp only [List.mem_cons, List.not_mem_nil, or_false, not_or]
      exact ⟨Nat.ne_of_lt (Nat.lt_succ_self _), Nat.ne_of_gt lt⟩
    refine into_set knd ((Walks.list c3 _ l ne1 items).toS) s.heap.objs.size out ys szs (by rw [← szs]; exact few) val (items.size - 0) 0 _ (by omega) (Nat.zero_le _) ⟨⟨_, Heap.get?_push_size _ rfl, rfl, rfl⟩, (isl1.push _)⟩ ?first ?last
    case first =>
      have at0 : ((s.heap.push { cls := .type "set", dict := none, data := .set #[] 0 (.fresh 0 0 led) }).push { cls := .type "list_iterator", data := .fields #[.ref l, .int 0 0] }).get? s.heap.objs.size = some { cls := .type "set", dict := none, data := .set #[] 0 (.fresh 0 0 led) } := Heap.get?_push_of_some _ hS
      exact SetOf_congr ((setObjOf_fresh (knd := knd) led).setOf at0 (by unfold scanBound; omega)) (fun _ => rfl) rfl
    case last =>
      intro s2 mv S2
      rw [tkall] at S2
      obtain ⟨h2, gs, dr, tk, ow⟩ := s2
      cases (show gs = s.gens from mv.gens)
      cases (show dr = s.drawn from mv.drawn)
      cases (show ow = s.os from mv.os)
      show wpAny _ _ _ _ _ _
      refine wpAny_pure ?_
      show wpAny _ _ (ret Value.none) _ _ _
      refine wpAny_pure ⟨rfl, h2, tk, rfl, S2, fun b o hb q => mv.heap b o ?_ (Heap.get?_push_of_some _ (Heap.get?_push_of_some _ q))⟩
      rw [sz1]
      simp only [List.mem_cons, List.not_mem_nil, or_false, not_or]
      exact ⟨Nat.ne_of_lt hb, Nat.ne_of_lt (Nat.lt_succ_of_lt hb)⟩
  · obtain ⟨r, rfl, hr2⟩ | ⟨e, rfl, hr2⟩ := wants_of hr2
    rotate_left
    · exact hr2
    obtain ⟨rfl, h2, tk, rfl, S2, kp⟩ := hr2
    repeat (any_goals (first | assumption | wp_step))
    exact goal _ _ S2 kp
set_option maxHeartbeats 3200000 in
/-- set(a tuple of texts) -/
theorem set_of_keysT {κ : Type} [DecidableEq κ] [BEq κ] [LawfulBEq κ] (knd : PySem.KeyKind prog w κ) {l : Addr} {items : Array Value} {ys : List κ} {Q : Value → Shared → Prop} (calm : A.handled = none) (isl : s.heap.IsTuple l items) (szs : ys.length = items.size) (val : ∀ (i : Nat) (v : Value), items[i]? = some v → ∃ y, ys[i]? = some y ∧ knd.is y v = true ∧ v.scannable = true) (few : ys.length + 1 < scanBound)
    (goal : ∀ (h2 : Heap) (tk : Nat), h2.SetOf knd s.heap.objs.size (fun z => ys.any (· == z)) (dst ys).length → (∀ b o, b < s.heap.objs.size → s.heap.get? b = some o → h2.get? b = some o) → Q (.ref s.heap.objs.size) { s with heap := h2, toks := tk }) :
    wpAny (model prog w) A (call (.type "set") [.ref l]) Q E s := by
  have tkall : ys.take items.size = ys := by rw [← szs, List.take_length]
  obtain ⟨mc, mt, hmro⟩ := PySem.F.called_set.mro
  have made := PySem.F.called_set.made
  have subc := PySem.F.called_set.sub
  refine wpAny_call (codeAny_of_tree ?_)
  show wpAny _ _ (callAny (.type "set") _) _ _ _
  refine wpAny_pure ⟨Code.quiet_builtin _ (by decide +kernel), codeAny_builtin PySem.F.entry_type_call ?_⟩
  rw [Around.under_plain (weight_type_call_type "set" [.ref l] []) rfl]
  have f1 := PySem.F.called_set.notType
  have f2 := PySem.F.called_set.canCreate
  have f3 := PySem.F.typeCall_set_1 (.ref l)
  repeat (any_goals (first | assumption | wp_step))
  refine codeAny_mono (code_set_new_1 (.ref l) (E := E) (Q₁ := fun obj z => ∃ led : Bool, obj = .ref s.heap.objs.size ∧ z = { s with heap := s.heap.push { cls := .type "set", dict := none, data := .set #[] 0 (.fresh 0 0 led) } }) fun led => ⟨led, rfl, rfl⟩) fun r z hr => ?_
  obtain ⟨obj, rfl, hr⟩ | ⟨e, rfl, hr⟩ := wants_of hr
  rotate_left
  · exact hr
  obtain ⟨led, rfl, rfl⟩ := hr
  have hS : (s.heap.push { cls := .type "set", dict := none, data := .set #[] 0 (.fresh 0 0 led) }).get? s.heap.objs.size = some { cls := .type "set", dict := none, data := .set #[] 0 (.fresh 0 0 led) } := Heap.get?_push_size _ rfl
  have isS : Shared.TypeIs { s with heap := s.heap.push { cls := .type "set", dict := none, data := .set #[] 0 (.fresh 0 0 led) } } (.ref s.heap.objs.size) "set" := ⟨_, hS, rfl⟩
  have g1 := PySem.F.called_set.init.lookup
  have g2 := PySem.F.called_set.init.bind (.ref s.heap.objs.size)
  repeat (any_goals (first | assumption | wp_step))
  refine codeAny_mono (codeAny_call_builtin (R := wants (fun r z => r = .none ∧ ∃ h2 tk, z = { s with heap := h2, toks := tk } ∧ h2.SetOf knd s.heap.objs.size (fun z => ys.any (· == z)) (dst ys).length ∧
      (∀ b o, b < s.heap.objs.size → s.heap.get? b = some o → h2.get? b = some o)) E) PySem.F.called_set.init.plain PySem.F.entry_set_init (check_set_init_1 isS ?_)) fun r2 z2 hr2 => ?_
  · obtain ⟨ol, hol, hcl, nl, hdl⟩ := isl
    obtain ⟨c1, c2, c3, c4⟩ := ol
    simp only at hcl hdl
    subst hcl hdl
    have here : (s.heap.push { cls := .type "set", dict := none, data := .set #[] 0 (.fresh 0 0 led) }).get? l = some { cls := .type "tuple", dict := c2, data := .seq items nl, slots := c4 } := Heap.get?_push_of_some _ hol
    have n1 := PySem.F.sub_tuple_set
    have n2 := PySem.F.sub_tuple_frozenset
    have n3 : (Value.type "tuple" == Value.type "dict") = false := by decide
    have isl1 : (s.heap.push { cls := .type "set", dict := none, data := .set #[] 0 (.fresh 0 0 led) }).IsTuple l items := ⟨_, here, rfl, nl, rfl⟩
    unfold Builtin.«set.__init__» noKeywords Builtin.Frozenset.updateFrom
    generalize eqP : pyIter = PP
    wp_walk
    subst eqP
    refine wpAny_pyIter_tuple isl1 (wpAny_bind (wpAny_runValue ?_))
    have lt : l < s.heap.objs.size := Heap.lt_size hol
    have c3 : A.in1.in1.in1.handled = none := by simp [calm]
    have sz1 : (s.heap.push { cls := .type "set", dict := none, data := .set #[] 0 (.fresh 0 0 led) }).objs.size = s.heap.objs.size + 1 := Heap.size_push ..
    have ne1 : l ≠ (s.heap.push { cls := .type "set", dict := none, data := .set #[] 0 (.fresh 0 0 led) }).objs.size := by
      rw [sz1]; exact Nat.ne_of_lt (Nat.lt_succ_of_lt lt)
    have out : s.heap.objs.size ∉ [(s.heap.push { cls := .type "set", dict := none, data := .set #[] 0 (.fresh 0 0 led) }).objs.size, l] := by
      rw [sz1]
      simp only [List.mem_cons, List.not_mem_nil, or_false, not_or]
      exact ⟨Nat.ne_of_lt (Nat.lt_succ_self _), Nat.ne_of_gt lt⟩
    refine into_set knd ((Walks.tuple c3 _ l ne1 items).toS) s.heap.objs.size out ys szs (by rw [← szs]; exact few) val (items.size - 0) 0 _ (by omega) (Nat.zero_le _) ⟨⟨_, Heap.get?_push_size _ rfl, rfl, rfl⟩, (isl1.push _)⟩ ?first ?last
    case first =>
      have at0 : ((s.heap.push { cls := .type "set", dict := none, data := .set #[] 0 (.fresh 0 0 led) }).push { cls := .type "tuple_iterator", data := .fields #[.ref l, .int 0 0] }).get? s.heap.objs.size = some { cls := .type "set", dict := none, data := .set #[] 0 (.fresh 0 0 led) } := Heap.get?_push_of_some _ hS
      exact SetOf_congr ((setObjOf_fresh (knd := knd) led).setOf at0 (by unfold scanBound; omega)) (fun _ => rfl) rfl
    case last =>
      intro s2 mv S2
      rw [tkall] at S2
      obtain ⟨h2, gs, dr, tk, ow⟩ := s2
      cases (show gs = s.gens from mv.gens)
      cases (show dr = s.drawn from mv.drawn)
      cases (show ow = s.os from mv.os)
      show wpAny _ _ _ _ _ _
      refine wpAny_pure ?_
      show wpAny _ _ (ret Value.none) _ _ _
      refine wpAny_pure ⟨rfl, h2, tk, rfl, S2, fun b o hb q => mv.heap b o ?_ (Heap.get?_push_of_some _ (Heap.get?_push_of_some _ q))⟩
      rw [sz1]
      simp only [List.mem_cons, List.not_mem_nil, or_false, not_or]
      exact ⟨Nat.ne_of_lt hb, Nat.ne_of_lt (Nat.lt_succ_of_lt hb)⟩
  · obtain ⟨r, rfl, hr2⟩ | ⟨e, rfl, hr2⟩ := wants_of hr2
    rotate_left
    · exact hr2
    obtain ⟨rfl, h2, tk, rfl, S2, kp⟩ := hr2
    repeat (any_goals (first | assumption | wp_step))
    exact goal _ _ S2 kp
end
section
variable {prog : Program} {w : World} {A : Around} {E : Value → Shared → Prop} {s : Shared}
/-- set(a list of texts) -/
theorem set_of_texts {l : Addr} {items : Array Value} {ys : List Str} {Q : Value → Shared → Prop} (calm : A.handled = none) (isl : s.heap.IsList l items) (all : StrsAre items.toList ys) (few : ys.length + 1 < scanBound)
    (goal : ∀ (h2 : Heap) (tk : Nat), h2.SetOf (PySem.strKind prog w) s.heap.objs.size (fun z => ys.any (· == z)) (dst ys).length → (∀ b o, b < s.heap.objs.size → s.heap.get? b = some o → h2.get? b = some o) → Q (.ref s.heap.objs.size) { s with heap := h2, toks := tk }) :
    wpAny (model prog w) A (call (.type "set") [.ref l]) Q E s := by
  have szs : ys.length = items.size := by rw [← StrsAre.len_eq all, Array.length_toList]
  refine set_of_keys (PySem.strKind prog w) calm isl szs (fun i v hv => ?_) few goal
  obtain ⟨t, rfl⟩ := SS.strs_at all i v (by rw [Array.getElem?_toList]; exact hv)
  have lt : i < ys.length := by rw [szs]; exact (Array.getElem?_eq_some_iff.mp hv).1
  refine ⟨ys.getD i Str.empty, ?_, strKind_is _ _ _ _, rfl⟩
  rw [List.getD_eq_getElem?_getD, List.getElem?_eq_getElem lt]; rfl
/-- set(a tuple of texts) -/
theorem set_of_textsT {l : Addr} {items : Array Value} {ys : List Str} {Q : Value → Shared → Prop} (calm : A.handled = none) (isl : s.heap.IsTuple l items) (all : StrsAre items.toList ys) (few : ys.length + 1 < scanBound)
    (goal : ∀ (h2 : Heap) (tk : Nat), h2.SetOf (PySem.strKind prog w) s.heap.objs.size (fun z => ys.any (· == z)) (dst ys).length → (∀ b o, b < s.heap.objs.size → s.heap.get? b = some o → h2.get? b = some o) → Q (.ref s.heap.objs.size) { s with heap := h2, toks := tk }) :
    wpAny (model prog w) A (call (.type "set") [.ref l]) Q E s := by
  have szs : ys.length = items.size := by rw [← StrsAre.len_eq all, Array.length_toList]
  refine set_of_keysT (PySem.strKind prog w) calm isl szs (fun i v hv => ?_) few goal
  obtain ⟨t, rfl⟩ := SS.strs_at all i v (by rw [Array.getElem?_toList]; exact hv)
  have lt : i < ys.length := by rw [szs]; exact (Array.getElem?_eq_some_iff.mp hv).1
  refine ⟨ys.getD i Str.empty, ?_, strKind_is _ _ _ _, rfl⟩
  rw [List.getD_eq_getElem?_getD, List.getElem?_eq_getElem lt]; rfl
/-- set(a list of ints) -/
theorem set_of_ints {l : Addr} {items : Array Value} {ys : List Int} {Q : Value → Shared → Prop} (calm : A.handled = none) (isl : s.heap.IsList l items) (rv : Vals (ys.map V.int) items.toList) (few : ys.length + 1 < scanBound)
    (goal : ∀ (h2 : Heap) (tk : Nat), h2.SetOf (PySem.intKind prog w) s.heap.objs.size (fun z => ys.any (· == z)) (dst ys).length → (∀ b o, b < s.heap.objs.size → s.heap.get? b = some o → h2.get? b = some o) → Q (.ref s.heap.objs.size) { s with heap := h2, toks := tk }) :
    wpAny (model prog w) A (call (.type "set") [.ref l]) Q E s := by
  have szs : ys.length = items.size := by
    have := rv.length
    rw [List.length_map, Array.length_toList] at this
    exact this
  refine set_of_keys (PySem.intKind prog w) calm isl szs (fun i v hv => ?_) few goal
  have lt : i < ys.length := by rw [szs]; exact (Array.getElem?_eq_some_iff.mp hv).1
  have key : ∀ {ns : List Int} {us : List Value} {i : Nat} {v : Value}, Vals (ns.map V.int) us → us[i]? = some v → ∃ y t, ns[i]? = some y ∧ v = .int y t := by
    intro ns
    induction ns with
    | nil => intro us i v r h; cases r; simp at h
    | cons n ns ih =>
      intro us i v r h
      cases r with
      | cons a b =>
        obtain ⟨t, rfl⟩ := a
        cases i with
        | zero => simp at h; subst h; exact ⟨n, t, rfl, rfl⟩
        | succ i => simpa using ih b (by simpa using h)
  obtain ⟨y, t, e, rfl⟩ := key rv (by rw [Array.getElem?_toList]; exact hv)
  exact ⟨y, e, intKind_is _ _ _ _, rfl⟩
end
end PV

namespace PV
open PySem PySem.Spec PyProof.Rows L2

def tNset (K : PySem.W.Frag) (ta : TE) : TE := fun σ H Q => ta σ H fun x H1 => (∃ (l : Addr) (ys : List Str), x = .ref l ∧ SqL K H1 l (ys.map V.str) ∧ ys.length < 4000 ∧ Q (.int ((dst ys).length : Nat)) H1) ∨ ((∃ (l : Addr) (ys : List Int), x = .ref l ∧ SqL K H1 l (ys.map V.int) ∧ ys.length < 4000 ∧ Q (.int ((dst ys).length : Nat)) H1) ∨ ∃ (l : Addr) (ys : List Str), x = .ref l ∧ SqT K H1 l (ys.map V.str) ∧ ys.length < 4000 ∧ Q (.int ((dst ys).length : Nat)) H1)
theorem pe_nset {X : Cx} {a : Expr} {ta : TE} {p p2 q pos : Pos} (hc : X.calm = true) (hg : Gl X "len") (hm : X.mg "len" = none) (hg2 : Gl X "set") (hm2 : X.mg "set" = none) (ha : PE X a ta) (hn : noStar a = true) :
    PE X (.Call (.Name "len" p) [.Call (.Name "set" p2) [a] [] q] [] pos) (tNset X.K ta) := by
  have na : starEach [a] X.env = (false, eval a X.env) :: starEach [] X.env := star_cons hn
  constructor
  intro pins s σ H Q I h
  refine Call_ (ld_blt I hg hm PySem.boot_len (PyProof.Rows.callWith_builtin1 (PyProof.Rows.args_cons ?_ rfl) rfl rfl))
  refine Call_ (ld_blt I hg2 hm2 PyProof.Rows.boot_set (PyProof.Rows.callWith_type1 (PyProof.Rows.args_cons (thn (ha.run pins s σ H _ I h) ?_) na) na rfl))
  rintro v s1 ⟨x, H1, I1, r1, ⟨l, ys, rfl, hq, few, q1⟩ | (⟨l, ys, rfl, hq, few, q1⟩ | ⟨l, ys, rfl, hq, few, q1⟩)⟩
  · refine PyProof.Rows.args_nil ?_
    cases r1
    obtain ⟨its, rv, pl, hz⟩ := I1.list hq
    refine set_of_texts (I1.ok.hd hc) pl.isList (by simpa using strsAre_of rv) (by unfold scanBound; omega) fun h2 tk S2 kp => PyProof.Rows.args_nil ?_
    obtain ⟨o, es, ep, t, ho, hex, hd, _, _, _, hf, hn2⟩ := S2
    have J : Inv X pins σ H1 { s1 with heap := h2, toks := tk } := I1.kept fun b o e => kp b o (Heap.lt_size e) e
    have dl := dst_len ys
    exact call_len_set ho hex hd hf (by rw [hn2]; omega) ⟨.int ((dst ys).length : Nat), H1, J.tok _, ⟨_, by rw [hn2]⟩, q1⟩
  · refine PyProof.Rows.args_nil ?_
    cases r1
    obtain ⟨its, rv, pl, hz⟩ := I1.list hq
    refine set_of_ints (I1.ok.hd hc) pl.isList (by simpa using rv) (by unfold scanBound; omega) fun h2 tk S2 kp => PyProof.Rows.args_nil ?_
    obtain ⟨o, es, ep, t, ho, hex, hd, _, _, _, hf, hn2⟩ := S2
    have J : Inv X pins σ H1 { s1 with heap := h2, toks := tk } := I1.kept fun b o e => kp b o (Heap.lt_size e) e
    have dl := dst_len ys
    exact call_len_set ho hex hd hf (by rw [hn2]; omega) ⟨.int ((dst ys).length : Nat), H1, J.tok _, ⟨_, by rw [hn2]⟩, q1⟩
  · refine PyProof.Rows.args_nil ?_
    cases r1
    obtain ⟨its, rv, pl, hz⟩ := I1.tuple hq
    refine set_of_textsT (I1.ok.hd hc) pl (by simpa using strsAre_of rv) (by unfold scanBound; omega) fun h2 tk S2 kp => PyProof.Rows.args_nil ?_
    obtain ⟨o, es, ep, t, ho, hex, hd, _, _, _, hf, hn2⟩ := S2
    have J : Inv X pins σ H1 { s1 with heap := h2, toks := tk } := I1.kept fun b o e => kp b o (Heap.lt_size e) e
    have dl := dst_len ys
    exact call_len_set ho hex hd hf (by rw [hn2]; omega) ⟨.int ((dst ys).length : Nat), H1, J.tok _, ⟨_, by rw [hn2]⟩, q1⟩
theorem RS.nset {S : Sg} {t : TE} {wo : WR} (h : RS S t wo) : RS S (tNset S.K t) (fun env Q => wo env fun r e1 => rdK e1 r fun d => match d with
    | .lst xs => match strsD xs with | some ys => ys.length < 4000 ∧ Q (.val (.int ((dst ys).length : Nat))) e1 | none => (match intsD xs with | some ns => ns.length < 4000 ∧ Q (.val (.int ((dst ns).length : Nat))) e1 | none => False)
    | .tup xs => match strsD xs with | some ys => ys.length < 4000 ∧ Q (.val (.int ((dst ys).length : Nat))) e1 | none => False
    | .tpn xs => match strsD xs with | some ys => ys.length < 4000 ∧ Q (.val (.int ((dst ys).length : Nat))) e1 | none => False
    | _ => False) := by
  intro Z F env σ H Q Q' s hw k
  refine h Z F env σ H _ _ s hw fun F1 H1 x r1 e1 q1 s1 i1 rr1 => ?_
  obtain ⟨d, g1, q1⟩ := rdK_some q1
  cases d with
  | lst xs =>
    obtain ⟨a, us, rfl, h1, h2⟩ := (now_rr i1 rr1 g1).lst i1.same
    cases q : strsD xs with
    | none =>
      simp only [q] at q1
      cases q' : intsD xs with
      | none => simp only [q'] at q1
      | some ys =>
        simp only [q'] at q1
        exact .inr (.inl ⟨a, ys, rfl, by rw [← ints_rep h2 q']; exact SqL.of h1, q1.1, k F1 H1 _ _ e1 q1.2 s1 i1 rfl⟩)
    | some ys =>
      simp only [q] at q1
      exact .inl ⟨a, ys, rfl, by rw [← strs_rep h2 q]; exact SqL.of h1, q1.1, k F1 H1 _ _ e1 q1.2 s1 i1 rfl⟩
  | tup xs =>
    obtain ⟨a, us, rfl, h1, h2⟩ := (now_rr i1 rr1 g1).tup i1.same
    cases q : strsD xs with
    | none => simp only [q] at q1
    | some ys =>
      simp only [q] at q1
      exact .inr (.inr ⟨a, ys, rfl, by rw [← strs_rep h2 q]; exact h1, q1.1, k F1 H1 _ _ e1 q1.2 s1 i1 rfl⟩)
  | tpn xs =>
    obtain ⟨a, us, rfl, _, h1, h2⟩ := (now_rr i1 rr1 g1).tpn i1.same
    cases q : strsD xs with
    | none => simp only [q] at q1
    | some ys =>
      simp only [q] at q1
      exact .inr (.inr ⟨a, ys, rfl, by rw [← strs_rep h2 q]; exact h1, q1.1, k F1 H1 _ _ e1 q1.2 s1 i1 rfl⟩)
  | _ => exact q1.elim
/-! ### keywords -/
/-- so many values -/
def lenA (n : Nat) (t : TA) : TA := fun σ H Q => t σ H fun vs H1 => vs.length = n → Q vs H1
/-- positional values, then the keywords' values -/
def tApp (n m : Nat) (t u : TA) : TA := fun σ H Q => t σ H fun vs H1 => vs.length = n → u σ H1 fun zs H2 => zs.length = m → Q (vs ++ zs) H2
theorem lenA_and {n : Nat} {t : TA} {σ : L2.St} {H : Hp} {U : List V → Hp → Prop} (h : t σ H fun vs H1 => vs.length = n → U vs H1) : lenA n t σ H fun vs H1 => vs.length = n ∧ U vs H1 := by
  have e : (fun (vs : List V) (H1 : Hp) => vs.length = n → U vs H1) = fun vs H1 => vs.length = n → (vs.length = n ∧ U vs H1) := by
    funext vs H1
    exact propext ⟨fun f q => ⟨q, f q⟩, fun f q => (f q).2⟩
  rw [e] at h
  exact h
theorem lenA_cons {n : Nat} {te : TE} {t : TA} : lenA (n + 1) (tCons te t) = tCons te (lenA n t) := by
  funext σ H Q
  show te σ H (fun v H1 => t σ H1 fun vs H2 => (v :: vs).length = n + 1 → _) = te σ H (fun v H1 => t σ H1 fun vs H2 => vs.length = n → _)
  congr 1
  funext v H1
  congr 1
  funext vs H2
  rw [List.length_cons]
  simp only [Nat.add_right_cancel_iff]
theorem tApp_cons {n m : Nat} {te : TE} {t u : TA} : tApp (n + 1) m (tCons te t) u = tCons te (tApp n m t u) := by
  funext σ H Q
  show te σ H (fun v H1 => t σ H1 fun vs H2 => (v :: vs).length = n + 1 → _) = te σ H (fun v H1 => t σ H1 fun vs H2 => vs.length = n → _)
  congr 1
  funext v H1
  congr 1
  funext vs H2
  rw [List.length_cons]
  simp only [Nat.add_right_cancel_iff]
  rfl
section
variable {X : Cx} {k n : Nat} {f : Addr} {sp : Sp} {x : Str} {p pos kpos : Pos} {e : Expr} {es : List Expr} {kws : List Keyword} {ks : List Str} {t u : TA} {te : TE} {nm : Option Str}
theorem pa_lnil : PA X [] (lenA 0 tNil) := ⟨fun _ _ _ _ H Q I h => Calls.spliced_nil ⟨[], H, I, .nil, h rfl⟩⟩
theorem pa_lcons (he : PE X e te) (h : PA X es (lenA n t)) (hs : noStar e = true) : PA X (e :: es) (lenA (n + 1) (tCons te t)) := by
  rw [lenA_cons]
  exact pa_cons he h (star_cons hs)
theorem pk_lnil : PK X [] (lenA 0 tNil) := ⟨fun _ _ _ _ H Q I h => wpAny_evalAll_nil ⟨[], H, I, .nil, h rfl⟩⟩
theorem pk_lcons (he : PE X e te) (h : PK X kws (lenA n t)) : PK X (⟨nm, e, kpos⟩ :: kws) (lenA (n + 1) (tCons te t)) := by
  rw [lenA_cons]
  exact pk_cons he h
theorem kw_ok (h : kws.map (·.arg) = ks.map some) : ∀ {env : Env} {pos : Pos}, (backToKw pos (keywordEach kws env)).all (·.1.isSome) = true ∧ (backToKw pos (keywordEach kws env)).filterMap (·.1) = ks ∧ (backToKw pos (keywordEach kws env)).any (·.1.isNone) = false := by
  intro env pos
  induction kws generalizing ks with
  | nil =>
    cases ks with
    | nil => exact ⟨rfl, rfl, rfl⟩
    | cons _ _ => simp at h
  | cons kw kws ih =>
    cases ks with
    | nil => simp at h
    | cons y ys =>
      obtain ⟨a, v, q⟩ := kw
      have h1 : a = some y := by simpa using congrArg List.head? h
      have h2 : kws.map (·.arg) = ys.map some := by simpa using congrArg List.tail h
      obtain ⟨i1, i2, i3⟩ := ih h2
      subst h1
      refine ⟨?_, ?_, ?_⟩
      · show (true && _) = true
        rw [Bool.true_and]; exact i1
      · show y :: _ = _
        congr 1
      · show (false || _) = false
        rw [Bool.false_or]; exact i3
theorem pe_callKA (F : FnRK X.prog X.w X.K X.mg X.base CX0 k f n ks sp) (hr : Room k X.A) (gd : X.A.guards = some []) (hg : Gl X x) (hm : X.mg x = some (.ref f)) (hk : PySem.W.keepIn X.K (.ref f) = true) (ha : PA X es (lenA n t)) (hu : PK X kws (lenA ks.length u)) (hn : ∀ y ∈ es, noStar y = true)
    (hne : es = [] → t = tNil ∧ n = 0) (hks : kws.map (·.arg) = ks.map some) (hd : (x == ("__debug__" : Str)) = false) : PE X (.Call (.Name x p) es kws pos) (fun σ H Q => tApp n ks.length t u σ H fun vs H1 => sp vs H1 Q E0) := by
  constructor
  intro pins s σ H Q I h
  obtain ⟨k1, k2, k3⟩ := kw_ok hks (env := X.env) (pos := pos)
  refine wpAny_Call_Name_kw (ld_glob I hg hm ?_ hd)
  have last : ∀ us vs s1 H1, Inv X pins σ H1 s1 → Vals vs us → us.length = n → (u σ H1 fun zs H2 => zs.length = ks.length → sp (vs ++ zs) H2 Q E0) →
      wpAny (model X.prog X.w) X.A (evalAll ((backToKw pos (keywordEach kws X.env)).map (·.2))) (fun ws s2 => X.K.In s2.heap ∧ wpAny (model X.prog X.w) X.A (call (.ref f) ([] ++ us) (((backToKw pos (keywordEach kws X.env)).filterMap (·.1)).zip ws)) (EP X pins σ Q) X.xe s2) X.xe s1 := by
    intro us vs s1 H1 I1 r l1 q
    refine thn (hu.run pos pins s1 σ H1 _ I1 (lenA_and q)) ?_
    rintro ws s2 ⟨zs, H2, I2, rz, l2, q2⟩
    rw [k2]
    exact ⟨I2.kIn, run_fnRK F hr gd I2 r rz l1 (rz.length.symm.trans l2) q2⟩
  cases es with
  | nil =>
    obtain ⟨rfl, rfl⟩ := hne rfl
    exact PySem.W.callWith_KW0 (h₀ := X.base) I.ok.mod.kin hk k1 (last [] [] s H I .nil rfl (h rfl)) (by rw [k3]; rfl)
  | cons e es =>
    have key : ∀ us s1, AP X pins σ (fun vs H1 => vs.length = n ∧ u σ H1 fun zs H2 => zs.length = ks.length → sp (vs ++ zs) H2 Q E0) us s1 → _ := fun us s1 ⟨vs, H1, I1, r, l1, q⟩ => last us vs s1 H1 I1 r (r.length.symm.trans l1) q
    refine PySem.W.callWith_KW (h₀ := X.base) I.ok.mod.kin hk k1 (thn (ha.run pos pins s σ H _ I (lenA_and h)) key) ?_ (star_cons (hn e List.mem_cons_self))
    rw [star_none hn, k3]; rfl
end
section
variable {X : Cx} {k n : Nat} {f C : Addr} {sp : Sp} {m : Str} {pos apos : Pos} {o : Expr} {es : List Expr} {kws : List Keyword} {ks : List Str} {ta : TE} {t u : TA}
theorem meth_evalK {env : Env} (hs : notSuper o = true) (ha : ∀ e ∈ es, noStar e = true) (hk : (backToKw pos (keywordEach kws env)).all (·.1.isSome) = true) (hn : es.length + kws.length + 1 < 30) (hl : (apos.endLine == pos.line) = true) :
    eval (.Call (.Attribute o m apos) es kws pos) env = (do
      let ov ← eval o env
      standAt apos.atName
      let (f, first) ← holding [ov] (getMethod ov m (do return (← importBound o env).getD true))
      callWith pos f first (backTo pos (starEach es env)) (backToKw pos (keywordEach kws env))) := by
  have hf : methodCallForm (es.length + kws.length) (backTo pos (starEach es env)) (backToKw pos (keywordEach kws env)) = true := by
    unfold methodCallForm
    rw [star_all ha, hk]
    have : es.length + kws.length + (if (backToKw pos (keywordEach kws env)).isEmpty then 0 else 1) < 30 := by split <;> omega
    simpa using this
  have hp : methodCallPos true o env apos pos = pure pos := by
    unfold methodCallPos
    rw [hl]
    rfl
  rw [arm_eval_Call, base_eq hs]
  unfold methodCall
  rw [hf, hp]
  rfl
theorem pe_methKA (he : PE X o ta) (c : Cls X.K C) (hm : Meth X.K C m f) (F : FnRK X.prog X.w X.K X.mg X.base CX0 k f (n + 1) ks sp) (hr : Room k X.A) (gd : X.A.guards = some []) (ha : PA X es (lenA n t)) (hu : PK X kws (lenA ks.length u)) (hn : ∀ y ∈ es, noStar y = true)
    (hne : es = [] → t = tNil ∧ n = 0) (hks : kws.map (·.arg) = ks.map some) (hs : notSuper o = true) (h30 : es.length + kws.length + 1 < 30) (hl : (apos.endLine == pos.line) = true) : PE X (.Call (.Attribute o m apos) es kws pos) (tMethR C m sp E0 ta (tApp n ks.length t u)) := by
  constructor
  intro pins s σ H Q I h
  obtain ⟨k1, k2, k3⟩ := kw_ok hks (env := X.env) (pos := pos)
  refine PySem.W.methodCall_KW (thn (he.run pins s σ H _ I h) ?_) (meth_evalK hs hn k1 h30 hl)
  rintro v s1 ⟨y, H1, I1, rx, a, dx, fs, rfl, ea, l, q⟩
  obtain rfl : v = Value.ref a := rx
  refine getmeth_ok I1 ea c hm l ?_
  have last : ∀ us vs s2 H2, Inv X pins σ H2 s2 → Vals vs us → us.length = n → (u σ H2 fun zs H3 => zs.length = ks.length → sp (V.ref a :: (vs ++ zs)) H3 Q E0) →
      wpAny (model X.prog X.w) X.A (evalAll ((backToKw pos (keywordEach kws X.env)).map (·.2))) (fun ws s3 => X.K.In s3.heap ∧ wpAny (model X.prog X.w) X.A (call (.ref f) ([Value.ref a] ++ us) (((backToKw pos (keywordEach kws X.env)).filterMap (·.1)).zip ws)) (EP X pins σ Q) X.xe s3) X.xe s2 := by
    intro us vs s2 H2 I2 r l1 q1
    refine thn (hu.run pos pins s2 σ H2 _ I2 (lenA_and q1)) ?_
    rintro ws s3 ⟨zs, H3, I3, rz, l2, q2⟩
    rw [k2]
    exact ⟨I3.kIn, run_fnRK (us := Value.ref a :: us) (vs := V.ref a :: vs) F hr gd I3 (.cons rfl r) rz (by rw [List.length_cons, l1]) (rz.length.symm.trans l2) q2⟩
  cases es with
  | nil =>
    obtain ⟨rfl, rfl⟩ := hne rfl
    exact PySem.W.callWith_KW0 (first := [.ref a]) (h₀ := X.base) I.ok.mod.kin hm.kp k1 (last [] [] s1 H1 I1 .nil rfl (q rfl)) (by rw [k3]; rfl)
  | cons e es =>
    have key : ∀ us s2, AP X pins σ (fun vs H2 => vs.length = n ∧ u σ H2 fun zs H3 => zs.length = ks.length → sp (V.ref a :: (vs ++ zs)) H3 Q E0) us s2 → _ := fun us s2 ⟨vs, H2, I2, r, l1, q2⟩ => last us vs s2 H2 I2 r (r.length.symm.trans l1) q2
    refine PySem.W.callWith_KW (first := [.ref a]) (h₀ := X.base) I.ok.mod.kin hm.kp k1 (thn (ha.run pos pins s1 σ H1 _ I1 (lenA_and q)) key) ?_ (star_cons (hn e List.mem_cons_self))
    rw [star_none hn, k3]; rfl
end
theorem RL.app0 {S : Sg} {t : TA} {w : Ev → (List RR → Ev → Prop) → Prop} {m : Nat} (h : RL S t w) : RL S (tApp 0 m tNil t) w := by
  intro Z F env σ H Q Q' s hw k
  exact fun _ => h Z F env σ H _ _ s hw fun Z' F' H' vs rs env' q le e s' ok _ => k Z' F' H' vs rs env' q le e s' ok
end PV

/-! PV: own operators; list(range(n)). -/
namespace PV
open PySem L2
/-! ### own operators: an instance on the left, an int on the right -/
def tDun (C : Addr) (sp : Sp) (t : TA) : TE := fun σ H Q => t σ H fun vs H1 => (∃ a dx fs j, vs = [V.ref a, V.int j] ∧ H1 a = some (.ins C dx fs)) ∧ sp vs H1 Q E0
theorem int_look (n : Str) (h : (PySem.W.findIn K (.type "int") n).isSome = true) : ∃ fo, PySem.W.findIn K (.type "int") n = some fo := Option.isSome_iff_exists.mp h
theorem int_dun (K : PySem.W.Frag) (op : BOp) : (∃ fo, PySem.W.findIn K (.type "int") (dunN op) = some fo) ∧ ∃ fo, PySem.W.findIn K (.type "int") (dunR' op) = some fo := by
  constructor <;> refine Option.isSome_iff_exists.mp ?_ <;> cases op <;> (show (fastLookup "int" _).isSome = true) <;> decide +kernel
theorem int_sub (K : PySem.W.Frag) (C : Addr) : PySem.W.subIn K (.type "int") (.ref C) = some false := by
  have e : fastBuiltinMro "int" = some [.type "int", .type "object"] := by decide +kernel
  show (fastBuiltinMro "int").map (·.contains (.ref C)) = _
  rw [e]
  rfl
theorem cmpbk {P : Value → Shared → Prop} {z : V} {v : Value} {s' : Shared} (r : RelV z v) (h : P v s') : PySem.W.CmpBack P v s' := SlX.cmpback r h
section
variable {X : Cx} {k : Nat} {f C : Addr} {sp : Sp} {pos : Pos} {a b : Expr} {ta tb : TE} {op : BOp}
theorem pe_dun (ha : PE X a ta) (hb : PE X b tb) (hm : Dun X.K op C f) (F : FnG X.prog X.w X.K X.mg X.base CX0 k f sp) (hr : Room k X.A) (gd : X.A.guards = some []) : PE X (.BinOp a (bOp op) b pos) (tDun C sp (tCons ta (tCons tb tNil))) := by
  refine ⟨fun pins s σ H Q I h => ?_⟩
  refine wpAny_BinOp (binT (R := fun x y H2 => (∃ a dx fs j, [x, y] = [V.ref a, V.int j] ∧ H2 a = some (.ins C dx fs)) ∧ sp [x, y] H2 Q E0) ha hb I h fun v u s2 x y H2 I2 rx ry q => ?_)
  obtain ⟨⟨p, dx, fs, j, e, ea⟩, q⟩ := q
  injection e with e1 e2
  injection e2 with e2 _
  subst e1 e2
  obtain rfl : v = Value.ref p := rx
  obtain ⟨t, rfl⟩ := ry
  obtain ⟨mA, O, _⟩ := ins_get I2.hok ea
  obtain ⟨od, J, _⟩ := O.look
  obtain ⟨m, hF⟩ := I2.fr
  obtain ⟨⟨fo, h1⟩, ⟨ro, h2⟩⟩ := int_dun X.K op
  have hc := hm.c
  unfold dunC at hc
  simp only [Bool.and_eq_true] at hc
  obtain ⟨hc1, hc2⟩ := hc
  have key : ∃ rc, PySem.W.findIn X.K (.ref C) (dunderR (bOp op).info.2) = some rc ∧ (rc = none ∨ ∃ g : Addr, rc = some (.ref g)) := by
    rw [dunR_eq]
    split at hc2
    · rename_i e; exact ⟨_, e, .inl rfl⟩
    · rename_i g e; exact ⟨_, e, .inr ⟨g, rfl⟩⟩
    · cases hc2
  obtain ⟨rc, k1, k2⟩ := key
  refine PySem.W.ksp_binT (T := "int") hF I.ok.mod.kin J rfl hc1 (by rw [dunN_eq]; exact hm.m.at_) hm.m.fn k1 k2 (by rw [dunN_eq]; exact h1) (by rw [dunR_eq]; exact h2) (int_sub _ _) ?_
  have go := run_fnG (us := [.ref p, .int j t]) (vs := [.ref p, .int j]) F hr gd I2 (.cons rfl (.cons ⟨t, rfl⟩ .nil)) q
  refine wpAny_mono (wpAny_call go) (fun z s3 hz => ?_) fun _ _ z => z
  obtain ⟨y, H3, I3, ry, q3⟩ := hz
  exact cmpbk ry ⟨y, H3, I3, ry, q3⟩
end
section
variable {S : Sg} {G : Gt}
theorem RL.dunF {t : TA} {w : Ev → (List RR → Ev → Prop) → Prop} {f c : Nat} {i : Fi} (h : RL S t w) (hi : G.fi[f]? = some i) :
    RS S (tDun (S.ca c) (spOf S i.io (G.sp f)) t) (fun env Q => w env fun rs e1 => rdKs e1 rs fun ds => dunOk c ds = true ∧ callK G f rs e1 Q) := by
  intro Z F env σ H Q Q' s hw k
  refine h Z F env σ H _ _ s hw fun Z1 F1 H1 vs rs e1 q0 le s1 i1 ok => ?_
  obtain ⟨ds0, g0, hd, q1⟩ := rdKs_some q0
  have pr := rsok_rd i1 ok g0
  constructor
  · match ds0, vs, pr, hd with
    | [.obj c' fs', .int j], [x, y], .cons r1 (.cons r2 .nil), hd =>
      have ec : c' = c := by simpa [dunOk] using hd
      subst ec
      obtain ⟨a, dx, fs, rfl, h1, h2, h3⟩ := r1.obj i1.same
      exact ⟨a, dx, fs, j, by rw [r2.int], h1⟩
  · unfold callK at q1
    rw [hi] at q1
    obtain ⟨ho, q1⟩ := q1
    obtain ⟨ds, g, q1⟩ := rdKs_some q1
    exact call_ok i1 le ok ho g q1 fun F2 H2 v r e2 q e i2 rr => k F2 H2 v r e2 q (s1.trans e) i2 rr
end
section
variable {X : Cx} {S : Sg}
theorem reps_rg {F : Hp} (n : Int) : Reps S F (rgD n) (rgV 0 n) := by
  unfold rgD rgV
  rw [show (n - 0).toNat = n.toNat by rw [Int.sub_zero]]
  generalize List.range n.toNat = l
  induction l with
  | nil => exact rfl
  | cons i l ih => exact ⟨.int (0 + (i : Nat)), _, rfl, by rw [Int.zero_add]; exact rfl, ih⟩
theorem RS.lrng {t : TE} {wo : WR} (h : RS S t wo) : RS S (tLstRg (tRg1 t)) (fun env Q => wo env fun r e1 => rdK e1 r fun d => match d with
    | .int n => (0 ≤ n ∧ n ≤ 16777216) ∧ Q (.fr (.lst (rgD n))) e1
    | _ => False) := by
  intro Z F env σ H Q Q' s hw k
  refine h Z F env σ H _ _ s hw fun F1 H1 x r1 e1 q1 s1 i1 rr1 => ?_
  obtain ⟨d, g, q1⟩ := rdK_some q1
  cases d with
  | int n =>
    obtain ⟨⟨n0, n1⟩, q1⟩ := q1
    refine ⟨n, (now_rr i1 rr1 g).int, RgOk.of_le (Int.le_refl _) n1 (by decide) n0, fun q hq => ?_⟩
    exact fin_new (Q := fun r => Q r e1) i1 q1 (reps_rg n) (fun F' H' v r q e i2 rr => k F' H' v r e1 q (s1.trans e) i2 rr) q hq
  | _ => exact False.elim q1
end
end PV

/-! PV: own texts, f-strings, C(a, b) into a star. -/
namespace PV
open PySem L2
section
variable {prog : Program} {w : World} {A : Around} {E : Value → Shared → Prop} {s : Shared} {K : PySem.W.Frag} {x C f : Addr} {ox : Obj} {od : Option Obj}
open PySem.W PySem.Calls PyProof.Rows in
/-- str(x) of an instance with an own text -/
theorem str_ownC {Q : Value → Shared → Prop} (room : A.in1.in1.units < cLine) (kin : K.In s.heap) (ins : InstAt s.heap x ox C od) (at_ : findIn K (.ref C) "__str__" = some (some (.ref f))) (fn : isFn K (.ref f) = true)
    (go : wpAny (model prog w) A.in1.in1 (call (.ref f) [.ref x]) (StrBack Q) E s) : wpAny (model prog w) A (call (.type "str") [.ref x]) Q E s := by
  have key : wpAny (model prog w) A.in1.in1 (PySem.Builtin.Str.strOf (.ref x)) (fun z s2 => ∃ y u, z = .str y u ∧ Q z s2) E s := by
    unfold PySem.Builtin.Str.strOf
    rw [show PySem.Builtin.Str.isExactStr (.ref x) = false from rfl]
    refine wpAny_bind (m := cRoomFor _ _) (wpAny_cRoomFor room ?_)
    refine wpAny_bind (m := callSpecial? (.ref x) (Str.ofString "__str__")) (special_fn kin ins at_ (beq_iff_eq.mp fn) (wpAny_mono go (fun z s2 hz => ?_) fun _ _ y => y))
    cases z <;> first | exact hz.elim | exact wpAny_pure ⟨_, _, rfl, hz⟩
  refine PySem.callType_codes (T := "str") (Bi := PySem.Builtin.«object.__init__») (Q₁ := fun z s2 => ∃ y u, z = .str y u ∧ Q z s2) PySem.F.called_str (PySem.F.typeCall_str_1 _) PySem.F.entry_object_init (codeAny_of_tree ?_) ?_
  · show wpAny _ A.in1.in1 (do checkBuiltinCall "str.__new__" ⟨[.type "str", .ref x], []⟩; again (.builtin "str.__new__" ⟨[.type "str", .ref x], []⟩)) _ _ s
    refine wpAny_bind (wpAny_of_eq (PySem.F.newCall_str_1 _) (wpAny_pure ⟨plainId_quiet (by decide +kernel) _, codeAny_builtin PySem.F.entry_str_new ?_⟩))
    rw [Around.under_plainId (by decide +kernel) _, PySem.str_new_tree]
    refine wpAny_bind (wpAny_pure (wpAny_bind (wpAny_of_eq isSubtype_str_str ?_)))
    exact wpAny_bind (wpAny_mono key (fun z s2 hz => wpAny_pure hz) fun _ _ y => y)
  · rintro obj s2 ⟨y, u, rfl, hq⟩
    refine ⟨typeIs_str _ _ _, PySem.F.args_object_init_2 _ _, ?_⟩
    exact PySem.object_init_meets PySem.F.called_str.init.lookup PySem.F.called_str.made (by decide) prog w A.in1 _ s2 ⟨typeIs_str _ _ _, rfl, hq⟩
end
section
variable {prog : Program} {w : World} {A : Around} {E : Value → Shared → Prop} {s : Shared} {K : PySem.W.Frag} {x C f : Addr} {ox : Obj} {od : Option Obj}
open PySem.W PySem.Calls PyProof.Rows in
/-- len(x) of an instance with an own length -/
theorem len_ownC {Q : Value → Shared → Prop} (kin : K.In s.heap) (ins : InstAt s.heap x ox C od) (at_ : findIn K (.ref C) "__len__" = some (some (.ref f))) (fn : isFn K (.ref f) = true)
    (go : wpAny (model prog w) A.in1 (call (.ref f) [.ref x]) (fun z s2 => ∃ (n : Int) (t : Tok), z = .int n t ∧ 0 ≤ n ∧ n < 2 ^ 63 ∧ Q (.int n s2.toks) { s2 with toks := s2.toks + 1 }) E s) : wpAny (model prog w) A (call (.builtin "len") [.ref x]) Q E s := by
  refine Calls.call_function_entry kind_len plain_len entry_len (args_len1 _) ?_
  unfold Builtin.«len»
  refine wpAny_bind (m := oneArg "len" _) (wpAny_pure ?_)
  refine wpAny_bind (m := callSpecial? (.ref x) (Str.ofString "__len__")) (special_fn kin ins at_ (beq_iff_eq.mp fn) (wpAny_mono go (fun z s2 hz => ?_) fun _ _ y => y))
  obtain ⟨n, t, rfl, n0, n1, hq⟩ := hz
  refine wpAny_bind (wpAny_holding (wpAny_pure ?_))
  refine wpAny_bind (wpAny_letGo ?_)
  show wpAny _ _ (if n < 0 then _ else _) _ _ _
  rw [if_neg (by omega)]
  show wpAny _ _ (if n ≥ 2 ^ 63 then _ else _) _ _ _
  rw [if_neg (by omega)]
  exact wpAny_bind (wpAny_mkInt (wpAny_pure ⟨_, rfl, hq⟩))
end
/-- an own text -/
def tStrO (C : Addr) (sp : Sp) (te : TE) : TE := fun σ H Q => te σ H fun x H1 => ∃ a dx fs, [x] = [V.ref a] ∧ H1 a = some (.ins C dx fs) ∧ sp [.ref a] H1 (fun v H' => ∃ y, v = .str y ∧ Q v H') E0
section
variable {X : Cx} {k : Nat} {f C : Addr} {sp : Sp} {p pos p2 : Pos} {e : Expr} {te : TE}
theorem back_str {pins : List (Addr × Obj)} {σ : L2.St} {H : Hp} {s : Shared} {A : Around} {a dx : Addr} {fs : List (Str × V)} {Q : VK} (hA : Room k A) (gd : A.guards = some []) (fr : A.frames = X.A.frames) (F : FnG X.prog X.w X.K X.mg X.base CX0 k f sp) (I : Inv X pins σ H s)
    (q : sp [.ref a] H (fun v H' => ∃ y, v = .str y ∧ Q v H') E0) : wpAny (model X.prog X.w) A (call (.ref f) [.ref a]) (PySem.W.StrBack (EP X pins σ Q)) X.xe s := by
  have e0 := I.env0
  have e1 : Env0 X.prog X.w X.K X.mg X.base A X.stack s H := ⟨fr.trans e0.frames, e0.mod, e0.bs, e0.bsz, e0.funs, e0.frf, e0.hok, e0.bare⟩
  refine wpAny_call (codeAny_mono (F A X.stack s H [.ref a] [.ref a] _ E0 hA gd e1 (.cons rfl .nil) q) ?_)
  rintro (e | fl) s2 hq
  · exact hq.elim
  · cases fl with
    | ret u =>
      obtain ⟨v, H3, I3, rv, ⟨y, rfl, q3⟩⟩ := I.after hq
      obtain ⟨t, rfl⟩ := rv
      exact ⟨.str y, H3, I3, ⟨t, rfl⟩, q3⟩
    | _ => exact hq.elim
theorem call_strO (hm : Meth X.K C "__str__" f) (F : FnG X.prog X.w X.K X.mg X.base CX0 k f sp) (hr : Room (k + 1) X.A) (gd : X.A.guards = some []) : CallR X (.type "str") (fun xs H Q => ∃ a dx fs, xs = [V.ref a] ∧ H a = some (.ins C dx fs) ∧ sp [.ref a] H (fun v H' => ∃ y, v = .str y ∧ Q v H') E0) := by
  intro pins s σ H xs us Q I r h
  obtain ⟨a, dx, fs, rfl, ea, q⟩ := h
  obtain ⟨u, rfl, rx⟩ := vals1 r
  obtain rfl : u = Value.ref a := rx
  obtain ⟨mA, O, _⟩ := ins_get I.hok ea
  obtain ⟨od, J, _⟩ := O.look
  have h1 := hr.un
  have h2 := hr.dp
  exact str_ownC (by show X.A.units + 1 + 1 < cLine; omega) I.kIn J hm.at_ hm.fn (back_str (a := a) (dx := dx) (fs := fs) ⟨hr.hd, by show X.A.depth + 3 * k + 5 < _; omega, by show X.A.units + 1 + 1 + 16 * k + 200 < cLine; omega⟩ gd rfl F I q)
theorem pe_strO (hm : Meth X.K C "__str__" f) (F : FnG X.prog X.w X.K X.mg X.base CX0 k f sp) (hr : Room (k + 1) X.A) (gd : X.A.guards = some []) (hg : Gl X "str") (hb : X.mg "str" = none) (he : PE X e te) (hn : noStar e = true) : PE X (.Call (.Name "str" p) [e] [] pos) (tStrO C sp te) :=
  pe_callTy (call_strO hm F hr gd) hg hb (by decide +kernel) (pa_cons he pa_nil (star_cons hn)) (by decide) (by decide) (star_cons hn) (star_none fun y hy => by cases hy)
def tLenO (C : Addr) (sp : Sp) (te : TE) : TE := fun σ H Q => te σ H fun x H1 => ∃ a dx fs, [x] = [V.ref a] ∧ H1 a = some (.ins C dx fs) ∧ sp [.ref a] H1 (fun v H' => ∃ n : Int, v = .int n ∧ 0 ≤ n ∧ n < 2 ^ 63 ∧ Q v H') E0
theorem call_lenO (hm : Meth X.K C "__len__" f) (F : FnG X.prog X.w X.K X.mg X.base CX0 k f sp) (hr : Room (k + 1) X.A) (gd : X.A.guards = some []) : CallR X (.builtin "len") (fun xs H Q => ∃ a dx fs, xs = [V.ref a] ∧ H a = some (.ins C dx fs) ∧ sp [.ref a] H (fun v H' => ∃ n : Int, v = .int n ∧ 0 ≤ n ∧ n < 2 ^ 63 ∧ Q v H') E0) := by
  intro pins s σ H xs us Q I r h
  obtain ⟨a, dx, fs, rfl, ea, q⟩ := h
  obtain ⟨u, rfl, rx⟩ := vals1 r
  obtain rfl : u = Value.ref a := rx
  obtain ⟨mA, O, _⟩ := ins_get I.hok ea
  obtain ⟨od, J, _⟩ := O.look
  have h1 := hr.un
  have h2 := hr.dp
  have hA : Room k X.A.in1 := ⟨hr.hd, by show X.A.depth + 3 * k + 5 < _; omega, by show X.A.units + 1 + 16 * k + 200 < cLine; omega⟩
  refine len_ownC I.kIn J hm.at_ hm.fn ?_
  have e0 := I.env0
  have e1 : Env0 X.prog X.w X.K X.mg X.base X.A.in1 X.stack s H := ⟨e0.frames, e0.mod, e0.bs, e0.bsz, e0.funs, e0.frf, e0.hok, e0.bare⟩
  refine wpAny_call (codeAny_mono (F X.A.in1 X.stack s H [.ref a] [.ref a] _ E0 hA gd e1 (.cons rfl .nil) q) ?_)
  rintro (e | fl) s2 hq
  · exact hq.elim
  · cases fl with
    | ret u =>
      obtain ⟨v, H3, I3, rv, n, rfl, n0, n1, q3⟩ := I.after hq
      obtain ⟨t, rfl⟩ := rv
      exact ⟨n, t, rfl, n0, n1, .int n, H3, I3.tok _, ⟨_, rfl⟩, q3⟩
    | _ => exact hq.elim
theorem pe_lenO (hm : Meth X.K C "__len__" f) (F : FnG X.prog X.w X.K X.mg X.base CX0 k f sp) (hr : Room (k + 1) X.A) (gd : X.A.guards = some []) (hg : Gl X "len") (hb : X.mg "len" = none) (he : PE X e te) (hn : noStar e = true) : PE X (.Call (.Name "len" p) [e] [] pos) (tLenO C sp te) :=
  pe_callB (call_lenO hm F hr gd) hg hb (by decide +kernel) (pa_cons he pa_nil (star_cons hn)) (by decide) (by decide) (star_cons hn) (star_none fun y hy => by cases hy)
/-! list(range(a, b, c)) -/
def tLstRg3 (ta : TA) : TE := fun σ H Q => ta σ H fun vs H1 => ∃ (i j c : Int) (n : Nat), vs = [.int i, .int j, .int c] ∧ RgC i j c n ∧ n ≤ 2 ^ 24 ∧ ∀ q, H1 q = none → Q (.ref q) (upd H1 q (.lst ((List.range n).map fun m => V.int (i + (m : Nat) * c))))
open PyProof.Rows in
theorem pe_listRg3 {a : Expr} {as : List Expr} {ta : TA} {pos2 : Pos} (hc : X.calm = true) (hg : Gl X "list") (hm : X.mg "list" = none) (hg2 : Gl X "range") (hm2 : X.mg "range" = none) (ha : PA X (a :: as) ta) (hn : (a :: as).all noStar = true) :
    PE X (.Call (.Name "list" p) [.Call (.Name "range" p2) (a :: as) [] pos2] [] pos) (tLstRg3 ta) := by
  have hs0 : starEach (a :: as) X.env = (false, eval a X.env) :: starEach as X.env := star_cons (List.all_eq_true.mp hn a List.mem_cons_self)
  have hs1 : (backTo pos2 (starEach as X.env)).any (·.1) = false := star_none fun y hy => List.all_eq_true.mp hn y (List.mem_cons_of_mem _ hy)
  have rng : ∀ (pins : List (Addr × Obj)) (s : Shared) (σ : L2.St) (H : Hp) (Q : Int → Int → Int → Nat → Hp → Prop), Inv X pins σ H s → (ta σ H fun vs H1 => ∃ (i j c : Int) (n : Nat), vs = [.int i, .int j, .int c] ∧ RgC i j c n ∧ Q i j c n H1) →
      wpAny (model X.prog X.w) X.A (eval (.Call (.Name "range" p2) (a :: as) [] pos2) X.env) (fun x s' => ∃ r i j c n t u v H', x = .ref r ∧ IsRange s'.heap r i j c t u v ∧ RgC i j c n ∧ Inv X pins σ H' s' ∧ Q i j c n H') X.xe s := by
    intro pins s σ H Q I h
    refine Call_ (ld_blt I hg2 hm2 boot_range (PyProof.Rows.callWith_type1 (thn (ha.run pos2 pins s σ H _ I h) fun us s1 ⟨vs, H1, I1, r1, q1⟩ => ?_) hs0 hs1))
    obtain ⟨i, j, c, n, e, hR, q⟩ := q1
    subst e
    obtain ⟨ua, ub, uc, rfl, ra, rb, rc⟩ : ∃ ua ub uc, us = [ua, ub, uc] ∧ RelV (.int i) ua ∧ RelV (.int j) ub ∧ RelV (.int c) uc := by
      cases r1 with
      | cons ra r1 =>
        cases r1 with
        | cons rb r1 =>
          cases r1 with
          | cons rc r1 =>
            cases r1
            exact ⟨_, _, _, rfl, ra, rb, rc⟩
    · obtain ⟨ta, rfl⟩ := ra
      obtain ⟨tb, rfl⟩ := rb
      obtain ⟨tc, rfl⟩ := rc
      exact call_range_3 hR.1 ⟨_, i, j, c, n, _, _, _, H1, rfl, IsRange.new .., hR, I1.kept (t' := s1.toks) fun b o e => Heap.get?_push_of_some _ e, q⟩ (.inl (PyProof.noPylong_small hR.2.1))
  refine ⟨fun pins s σ H Q I h => ?_⟩
  have na : starEach [.Call (.Name "range" p2) (a :: as) [] pos2] X.env = (false, eval (.Call (.Name "range" p2) (a :: as) [] pos2) X.env) :: starEach [] X.env := star_cons rfl
  refine Call_ (ld_blt I hg hm boot_list (PyProof.Rows.callWith_type1 (args_cons (thn (rng pins s σ H (fun i j c n H1 => n ≤ 2 ^ 24 ∧ ∀ q, H1 q = none → Q (.ref q) (upd H1 q (.lst ((List.range n).map fun m => V.int (i + (m : Nat) * c))))) I h) fun x s1 hx => args_nil ?_) na) na))
  obtain ⟨r, i, j, c, n, t, u, v, H1, rfl, hr, hR, I1, hn2, q⟩ := hx
  refine call_list_range (n := n) (I1.ok.hd hc) hr hR.2.2.1 hR.2.2.2 hn2 fun h' tk acc c' hk e' hi => ?_
  refine ⟨.ref s1.heap.objs.size, _, I1.laid hk (Nat.le_refl _) (show ObjOk X.prog X.w _ _ _ (.lst ((List.range n).map fun m => V.int (i + (m : Nat) * c))) from ⟨?_, acc.toList, c', ?_, ?_⟩), rfl, q _ (I1.hok.fresh (Nat.le_refl _))⟩
  · rw [List.length_map, List.length_range, sizeLine_eq]; omega
  · have e : acc.toList.length = n := by rw [Array.length_toList]; exact hi.1
    rw [← e]
    exact vals_of_get acc.toList _ fun m u hm => hi.2 m u (by rw [← hm, Array.getElem?_toList])
  · rw [Array.toArray_toList]; exact e'
/-- what f'{x}' wants of a class -/
structure StrF (K : PySem.W.Frag) (C f : Addr) : Prop where
  m : Meth K C "__str__" f
  fm : PySem.W.findIn K (.ref C) "__format__" = some (some (.builtin "object.__format__"))
  ob : PySem.W.mroIn K C (.type "object") = some true
theorem pe_fmtO (hm : StrF X.K C f) (F : FnG X.prog X.w X.K X.mg X.base CX0 k f sp) (hr : Room (k + 1) X.A) (gd : X.A.guards = some []) (he : PE X e te) : PE X (.FormattedValue e (-1) none p) (tStrO C sp te) := by
  refine ⟨fun pins s σ H Q I h => ?_⟩
  refine wpAny_FormattedValue_plain (thn (he.run pins s σ H _ I h) fun v s1 hv => ?_)
  obtain ⟨x, H1, I1, rx, a, dx, fs, ex, ea, q⟩ := hv
  injection ex with ex _
  subst ex
  obtain rfl : v = Value.ref a := rx
  obtain ⟨mA, O, _⟩ := ins_get I1.hok ea
  obtain ⟨od, J, _⟩ := O.look
  have h1 := hr.un
  have h2 := hr.dp
  have I2 := I1.tok (s1.toks + 1)
  exact PySem.W.kfo_fieldS (by show X.A.units + 1 < cLine; omega) I1.kIn J hm.fm hm.ob hm.m.at_ hm.m.fn (back_str (a := a) (dx := dx) (fs := fs) ⟨hr.hd, by show X.A.depth + 3 * k + 5 < _; omega, by show X.A.units + 1 + 16 * k + 200 < cLine; omega⟩ gd rfl F I2 q)
end
section
variable {S : Sg} {G : Gt}
theorem RS.strO {t : TE} {wo : WR} {f c : Nat} {i : Fi} (ho : RS S t wo) (hi : G.fi[f]? = some i) : RS S (tStrO (S.ca c) (spOf S i.io (G.sp f)) t) (fun env Q => wo env fun r e1 => rdK e1 r fun d => isObj c d = true ∧ callK G f [r] e1 fun r2 e2 => match r2 with | .val (.str y) => Q (.val (.str y)) e2 | _ => False) := by
  intro Z F env σ H Q Q' s hw k
  refine ho Z F env σ H _ _ s hw fun F1 H1 x r1 e1 q1 s1 i1 rr1 => ?_
  obtain ⟨d1, g1, hob, q1'⟩ := rdK_some q1
  clear q1
  cases d1 with
  | obj c' ds1 =>
    have ec : c' = c := by simpa [isObj] using hob
    subst ec
    obtain ⟨a, dx, fs, rfl, h1, h2, h3⟩ := (now_rr i1 rr1 g1).obj i1.same
    refine ⟨a, dx, fs, rfl, h1, ?_⟩
    unfold callK at q1'
    rw [hi] at q1'
    obtain ⟨ho2, q2⟩ := q1'
    obtain ⟨ds, g, q2⟩ := rdKs_some q2
    have ok2 : RsOk S Z (Zx Z H1 r1 (V.ref a)) F1 σ [r1] [V.ref a] := by
      refine ⟨V.ref a, [], rfl, rfl, ?_⟩
      cases r1 with
      | val d => exact rr1
      | sl j => exact rr1.2
      | fr d =>
        obtain ⟨b, o, eb, hb, hc, hf, hz, hn⟩ := rr1
        cases eb
        exact ⟨a, o, rfl, by show (if a = a then H1 a else Z a) = some o; rw [if_pos rfl]; exact hb, hz, hc, by simp [frVs]⟩
    refine call_ok (Q := fun r2 e2 => match r2 with | .val (.str y) => Q (.val (.str y)) e2 | _ => False) (zx_sr i1 rr1) (zx_le rr1) ok2 ho2 g q2 fun F2 H2 v r e2 q e i2 rr => ?_
    cases r with
    | val d =>
      cases d with
      | str y =>
        have hv : v = .str y := rr
        exact ⟨y, hv, k F2 H2 v _ e2 q (s1.trans e) i2 rr⟩
      | _ => exact q.elim
    | _ => exact q.elim
  | _ => exact absurd hob (by simp [isObj])
theorem RS.lenO {t : TE} {wo : WR} {f c : Nat} {i : Fi} (ho : RS S t wo) (hi : G.fi[f]? = some i) : RS S (tLenO (S.ca c) (spOf S i.io (G.sp f)) t) (fun env Q => wo env fun r e1 => rdK e1 r fun d => isObj c d = true ∧ callK G f [r] e1 fun r2 e2 => match r2 with | .val (.int n) => (0 ≤ n ∧ n ≤ 16777216) ∧ Q (.val (.int n)) e2 | _ => False) := by
  intro Z F env σ H Q Q' s hw k
  refine ho Z F env σ H _ _ s hw fun F1 H1 x r1 e1 q1 s1 i1 rr1 => ?_
  obtain ⟨d1, g1, hob, q1'⟩ := rdK_some q1
  clear q1
  cases d1 with
  | obj c' ds1 =>
    have ec : c' = c := by simpa [isObj] using hob
    subst ec
    obtain ⟨a, dx, fs, rfl, h1, h2, h3⟩ := (now_rr i1 rr1 g1).obj i1.same
    refine ⟨a, dx, fs, rfl, h1, ?_⟩
    unfold callK at q1'
    rw [hi] at q1'
    obtain ⟨ho2, q2⟩ := q1'
    obtain ⟨ds, g, q2⟩ := rdKs_some q2
    have ok2 : RsOk S Z (Zx Z H1 r1 (V.ref a)) F1 σ [r1] [V.ref a] := by
      refine ⟨V.ref a, [], rfl, rfl, ?_⟩
      cases r1 with
      | val d => exact rr1
      | sl j => exact rr1.2
      | fr d =>
        obtain ⟨b, o, eb, hb, hc, hf, hz, hn⟩ := rr1
        cases eb
        exact ⟨a, o, rfl, by show (if a = a then H1 a else Z a) = some o; rw [if_pos rfl]; exact hb, hz, hc, by simp [frVs]⟩
    refine call_ok (Q := fun r2 e2 => match r2 with | .val (.int n) => (0 ≤ n ∧ n ≤ 16777216) ∧ Q (.val (.int n)) e2 | _ => False) (zx_sr i1 rr1) (zx_le rr1) ok2 ho2 g q2 fun F2 H2 v r e2 q e i2 rr => ?_
    cases r with
    | val d =>
      cases d with
      | int n =>
        have hv : v = .int n := rr
        exact ⟨n, hv, q.1.1, by have := q.1.2; omega, k F2 H2 v _ e2 q.2 (s1.trans e) i2 rr⟩
      | _ => exact q.elim
    | _ => exact q.elim
  | _ => exact absurd hob (by simp [isObj])
theorem reps_step {F : Hp} (i k : Int) (n : Nat) : Reps S F (stepD i k n) ((List.range n).map fun m => V.int (i + (m : Nat) * k)) := by
  unfold stepD
  generalize List.range n = l
  induction l with
  | nil => exact rfl
  | cons m l ih => exact ⟨_, _, rfl, rfl, ih⟩
theorem RL.lrng3 {t : TA} {w : Ev → (List RR → Ev → Prop) → Prop} (h : RL S t w) : RS S (tLstRg3 t) (fun env Q => w env fun rs e1 => rdKs e1 rs fun ds => match ds with
    | [.int i, .int j, .int k] => ∃ n : Nat, (RgC i j k n ∧ n ≤ 16777216) ∧ Q (.fr (.lst (stepD i k n))) e1
    | _ => False) := by
  intro Z F env σ H Q Q' s hw k
  refine h Z F env σ H _ _ s hw fun Z1 F1 H1 vs rs e1 q1 le s1 i1 ok => ?_
  obtain ⟨ds, g, q1⟩ := rdKs_some q1
  have pr := rsok_rd i1 ok g
  split at q1
  · rename_i i j c
    obtain ⟨n, ⟨h1, h2⟩, q⟩ := q1
    match vs, pr with
    | [x, y, z], .cons r1 (.cons r2 (.cons r3 .nil)) =>
      refine ⟨i, j, c, n, by rw [r1.int, r2.int, r3.int], h1, h2, ?_⟩
      exact fin_new (Q := fun r => Q r e1) i1 q (reps_step i c n) fun F2 H2 v r q e i2 rr => k F2 H2 v r e1 q (s1.trans e) (sr_weak le i2) (rrel_weak le rr)
  · exact q1.elim
/-! ### f-strings -/
def RJ (S : Sg) (ts : List TE) (w : Str → Ev → (Str → Ev → Prop) → Prop) : Prop :=
  ∀ (acc : Str) (Z F : Hp) (env : Ev) (σ : L2.St) (H : Hp) (Q : Str → Ev → Prop) (Q' : Str → Hp → Prop), SR S Z F env σ H → w acc env Q →
    (∀ F' H' y env', Q y env' → Same F F' → SR S Z F' env' σ H' → Q' y H') → tJs ts acc σ H Q'
theorem RJ.nil : RJ S [] (fun acc env Q => Q acc env) := fun acc Z F env σ H Q Q' s hw k => k F H acc env hw (Same.refl F) s
theorem RJ.txt {t : TE} {ts : List TE} {w : WR} {ws : Str → Ev → (Str → Ev → Prop) → Prop} (h : RS S t w) (r : RJ S ts ws) (ht : ∀ Z F env σ H Q, SR S Z F env σ H → w env Q → w env fun r e1 => Q r e1 ∧ ∃ y, r = .val (.str y)) :
    RJ S (t :: ts) (fun acc env Q => w env fun r e1 => rdK e1 r fun d => match txtD d with | some y => (acc ++ y).length ≤ LIM ∧ ws (acc ++ y) e1 Q | none => False) := by
  intro acc Z F env σ H Q Q' s hw k
  show t σ H fun x H1 => ∃ y : Str, x = .str y ∧ (acc ++ y).length ≤ sizeLine ∧ tJs ts (acc ++ y) σ H1 Q'
  refine h Z F env σ H _ _ s (ht Z F env σ H _ s hw) fun F1 H1 v r1 e1 q s1 i1 rr => ?_
  obtain ⟨q, y, rfl⟩ := q
  have q : (match (if y.length ≤ LIM then some y else none) with | some y => (acc ++ y).length ≤ LIM ∧ ws (acc ++ y) e1 Q | none => False) := q
  by_cases hy : y.length ≤ LIM
  · rw [if_pos hy] at q
    exact ⟨y, rr, lim_le q.1, r _ Z F1 e1 σ H1 Q Q' i1 q.2 fun F2 H2 y e2 q2 e i2 => k F2 H2 y e2 q2 (s1.trans e) i2⟩
  · rw [if_neg hy] at q; exact q.elim
theorem RJ.fmt {t : TE} {ts : List TE} {w : WR} {ws : Str → Ev → (Str → Ev → Prop) → Prop} (h : RS S t w) (r : RJ S ts ws) :
    RJ S (tFmt t :: ts) (fun acc env Q => w env fun r e1 => rdK e1 r fun d => match txtD d with | some y => (acc ++ y).length ≤ LIM ∧ ws (acc ++ y) e1 Q | none => False) := by
  intro acc Z F env σ H Q Q' s hw k
  show tFmt t σ H fun x H1 => ∃ y : Str, x = .str y ∧ (acc ++ y).length ≤ sizeLine ∧ tJs ts (acc ++ y) σ H1 Q'
  refine h Z F env σ H _ _ s hw fun F1 H1 v r1 e1 q s1 i1 rr => ?_
  obtain ⟨d, g, q⟩ := rdK_some q
  have rn := now_rr i1 rr g
  have fin : ∀ y, (acc ++ y).length ≤ LIM ∧ ws (acc ++ y) e1 Q → ∃ y' : Str, V.str y = .str y' ∧ (acc ++ y').length ≤ sizeLine ∧ tJs ts (acc ++ y') σ H1 Q' := fun y q =>
    ⟨y, rfl, lim_le q.1, r _ Z F1 e1 σ H1 Q Q' (sr_weak (fun _ _ z => z) i1) q.2 fun F2 H2 y e2 q2 e i2 => k F2 H2 y e2 q2 (s1.trans e) i2⟩
  cases d with
  | str y =>
    have q : (match (if y.length ≤ LIM then some y else none) with | some y => (acc ++ y).length ≤ LIM ∧ ws (acc ++ y) e1 Q | none => False) := q
    by_cases hy : y.length ≤ LIM
    · rw [if_pos hy] at q
      exact .inl ⟨y, rn.str, lim_le hy, fin y q⟩
    · rw [if_neg hy] at q; exact q.elim
  | int i =>
    have q : (match (if i.natAbs.log2 < 1920 then some (toString i : Str) else none) with | some y => (acc ++ y).length ≤ LIM ∧ ws (acc ++ y) e1 Q | none => False) := q
    by_cases hy : i.natAbs.log2 < 1920
    · rw [if_pos hy] at q
      exact .inr ⟨i, rn.int, hy, fin _ q⟩
    · rw [if_neg hy] at q; exact q.elim
  | _ => exact q.elim
/-- an f-string that is one value -/
theorem RS.fmt1 {t : TE} {w : WR} (h : RS S t w) : RS S (tFmt t) (fun env Q => w env fun r e1 => rdK e1 r fun d => match txtD d with | some y => (Str.empty ++ y).length ≤ LIM ∧ Q (.val (.str (Str.empty ++ y))) e1 | none => False) := by
  intro Z F env σ H Q Q' s hw k
  show tFmt t σ H Q'
  refine h Z F env σ H _ _ s hw fun F1 H1 v r1 e1 q s1 i1 rr => ?_
  obtain ⟨d, g, q⟩ := rdK_some q
  have rn := now_rr i1 rr g
  have ee : ∀ y : Str, Str.empty ++ y = y := fun y => Str.ext' (Array.toList_inj.mp (by show (Str.empty.cps ++ y.cps).toList = _; rw [Array.toList_append]; rfl))
  have fin : ∀ y, (Str.empty ++ y).length ≤ LIM ∧ Q (.val (.str (Str.empty ++ y))) e1 → Q' (.str y) H1 := fun y q => by
    rw [ee] at q
    exact k F1 H1 (.str y) (.val (.str y)) e1 q.2 s1 (sr_weak (fun _ _ z => z) i1) rfl
  cases d with
  | str y =>
    have q : (match (if y.length ≤ LIM then some y else none) with | some y => (Str.empty ++ y).length ≤ LIM ∧ Q (.val (.str (Str.empty ++ y))) e1 | none => False) := q
    by_cases hy : y.length ≤ LIM
    · rw [if_pos hy] at q
      exact .inl ⟨y, rn.str, lim_le hy, fin y q⟩
    · rw [if_neg hy] at q; exact q.elim
  | int i =>
    have q : (match (if i.natAbs.log2 < 1920 then some (toString i : Str) else none) with | some y => (Str.empty ++ y).length ≤ LIM ∧ Q (.val (.str (Str.empty ++ y))) e1 | none => False) := q
    by_cases hy : i.natAbs.log2 < 1920
    · rw [if_pos hy] at q
      exact .inr ⟨i, rn.int, hy, fin _ q⟩
    · rw [if_neg hy] at q; exact q.elim
  | _ => exact q.elim
theorem RS.fst {ts : List TE} {w : Str → Ev → (Str → Ev → Prop) → Prop} (h : RJ S ts w) : RS S (fun σ H Q => tJs ts Str.empty σ H fun out H1 => Q (.str out) H1) (fun env Q => w Str.empty env fun y e1 => Q (.val (.str y)) e1) := by
  intro Z F env σ H Q Q' s hw k
  exact h Str.empty Z F env σ H _ _ s hw fun F1 H1 y e1 q e i1 => k F1 H1 (.str y) (.val (.str y)) e1 q e i1 rfl
/-! ### C(a, b) into a star -/
theorem RL.makeV {t : TA} {w : Ev → (List RR → Ev → Prop) → Prop} {f c : Nat} {i : Fi} (h : RL S t w) (hi : G.fi[f]? = some i) (hio : i.io = [true, false]) :
    RS S (StX.tMakeR (S.ca c) (spRest 1 (spOf S i.io (G.sp f))) E0 t) (fun env Q => w env fun rs e1 => rdKs e1 rs fun ds => allV rs = true ∧ ds.length ≤ LIM ∧ makeK G c f [.val (.tup ds)] e1 Q) := by
  intro Z F env σ H Q Q' s hw k
  refine h Z F env σ H _ _ s hw fun Z1 F1 H1 vs rs e1 q1 le s1 i1 ok => ?_
  obtain ⟨ds, g0, hv, hlen, q1⟩ := rdKs_some q1
  have rys : Reps S F1 ds vs := rsok_vals ok hv g0
  have i1 := sr_weak le i1
  intro x dx hx hdx ne
  refine ⟨[V.ref x], vs, rfl, rfl, by rw [rys.length, ← lim_eq]; exact hlen, fun p hp => ?_⟩
  unfold makeK callK at q1
  rw [hi] at q1
  obtain ⟨ho, q1⟩ := q1
  obtain ⟨as, g, q1⟩ := rdKs_some q1
  have i2 : SR S Z F1 e1 σ (upd H1 dx (.own x)) := sr_newH i1 hdx
  have hx2 : (upd H1 dx (.own x)) x = none := by rw [upd_ne (Ne.symm ne)]; exact hx
  have i3 : SR S Z F1 e1 σ (upd (upd H1 dx (.own x)) x (.ins (S.ca c) dx [])) := sr_newH i2 hx2
  have mine : Mine S Z F1 (upd (upd H1 dx (.own x)) x (.ins (S.ca c) dx [])) σ e1 (.obj c []) (.ref x) := mine_new i2 hx2 ⟨dx, [], rfl, by simp, rfl⟩
  have i4 := sr_push i3 mine
  have fp := fresh_F i4 hp
  have e5 : Same F1 (upd F1 p (.tup vs)) := same_new fp
  have i5 := sr_newF (o := .tup vs) i4 hp
  have rp : Rep S (upd F1 p (.tup vs)) (.tup ds) (.ref p) := ⟨p, vs, rfl, SqT.of upd_same, Reps.mono e5 _ _ rys⟩
  have ok2 : RsOk S Z Z (upd F1 p (.tup vs)) (σ ++ [some (V.ref x)]) [.sl e1.length, .val (.tup ds)] [V.ref x, V.ref p] := by
    refine ⟨V.ref x, [V.ref p], rfl, ⟨V.ref p, [], rfl, rfl, rp⟩, ?_⟩
    show (σ ++ [some (V.ref x)])[e1.length]? = _
    rw [← i1.len]; simp
  refine call_ok (Q := fun r e2 => r = .val .non ∧ match e2.getLast? with
    | some (.own o) => Q (.fr o) e2.dropLast
    | _ => False) i5 (fun _ _ z => z) ok2 ho g q1 fun F2 H2 v r e2 q e i6 rr => ?_
  obtain ⟨rfl, q⟩ := q
  have hv : v = .non := rr
  refine ⟨hv, ?_⟩
  cases gl : e2.getLast? with
  | none => rw [gl] at q; exact False.elim q
  | some y =>
    rw [gl] at q
    cases y with
    | un => exact False.elim q
    | val d => exact False.elim q
    | own o =>
      have hne : e2 ≠ [] := by intro z; subst z; simp at gl
      have e2e : e2 = e2.dropLast ++ [.own o] := by
        have := List.dropLast_concat_getLast hne
        rw [List.getLast?_eq_some_getLast hne] at gl
        have ee : e2.getLast hne = .own o := Option.some.inj gl
        rw [ee] at this
        exact this.symm
      rw [e2e] at i6
      obtain ⟨i7, m7⟩ := sr_pop i6
      exact k F2 H2 (.ref x) (.fr o) e2.dropLast q ((s1.trans e5).trans e) i7 m7
end
end PV

/-! PV: own.pop(i), x[::-1], {} -/
namespace HT
open PySem PySem.Spec PyProof.Rows PySem.Calls
section
variable {prog : Program} {w : World} {A : Around} {E : Value → Shared → Prop} {s : Shared}
theorem adjust_rev (n : Nat) : Builtin.Slice.sliceAdjust none none (-1) (n : Int) = ((n : Int) - 1, -1) := by
  have h1 : ((-1 : Int) < 0) := by omega
  unfold Builtin.Slice.sliceAdjust
  simp only [h1, if_true]
theorem places_rev (n : Nat) : Builtin.Slice.slicePlaces ((n : Int) - 1) (-1) (-1) = n := by
  unfold Builtin.Slice.slicePlaces
  have h1 : ¬ ((-1 : Int) > 0) := by omega
  simp only [h1, if_false]
  split
  · rw [show ((n : Int) - 1 - -1 - 1) / - -1 + 1 = (n : Int) by rw [Int.neg_neg, Int.ediv_one]; omega]
    omega
  · omega
theorem applied_rev {sl : Addr} {vl vu vs : Value} {n : Nat} {Q : Int × Int × Nat → Shared → Prop} (hs : s.heap.IsSliceOf sl vl vu vs) (pl : IsPart vl none) (pu : IsPart vu none) (ps : IsPart vs (some (-1)))
    (h : Q ((n : Int) - 1, -1, n) s) : wpAny (model prog w) A (Builtin.Slice.sliceApplied (.ref sl) (pure (n : Int))) Q E s := by
  obtain ⟨os, o1, o2, o3⟩ := id hs
  unfold Builtin.Slice.sliceApplied Builtin.Slice.sliceFields
  refine wpAny_bind (wpAny_bind (wpAny_field o1 o3 (x := vl) rfl (wpAny_bind (wpAny_field o1 o3 (x := vu) rfl (wpAny_bind (wpAny_field o1 o3 (x := vs) rfl (wpAny_pure ?_)))))))
  refine wpAny_bind (slicePart_ ps ?_)
  show wpAny _ _ (if ((-1 : Int) == 0) = true then _ else _) _ _ s
  rw [if_neg (show ¬ ((-1 : Int) == 0) = true by decide)]
  refine wpAny_bind (slicePart_ pl (wpAny_bind (slicePart_ pu (wpAny_bind (wpAny_pure ?_)))))
  show wpAny _ _ (match Builtin.Slice.sliceAdjust none none (-1) (n : Int) with | (a, b) => pure (a, (-1 : Int), Builtin.Slice.slicePlaces a b (-1))) _ _ s
  rw [adjust_rev n]
  show wpAny _ _ (pure ((n : Int) - 1, (-1 : Int), Builtin.Slice.slicePlaces ((n : Int) - 1) (-1) (-1))) _ _ s
  rw [places_rev]
  exact wpAny_pure h
theorem fm_some {α β : Type} {f : α → Option β} {g : α → β} : ∀ l : List α, (∀ m, m ∈ l → f m = some (g m)) → l.filterMap f = l.map g
  | [], _ => rfl
  | a :: l, h => by
    rw [List.filterMap_cons, h a List.mem_cons_self, List.map_cons, fm_some l fun m hm => h m (List.mem_cons_of_mem _ hm)]
theorem fm_rev (l : Array Value) : ((List.range l.size).filterMap fun (m : Nat) => l[(((l.size : Nat) : Int) - 1 + (m : Int) * (-1)).toNat]?) = l.toList.reverse := by
  rw [fm_some (g := fun m => l.toList.reverse.getD m .none)]
  · apply List.ext_getElem?
    intro i
    by_cases hi : i < l.size
    · rw [List.getElem?_map, List.getElem?_range hi]
      have : i < l.toList.reverse.length := by rw [List.length_reverse]; simpa using hi
      rw [List.getElem?_eq_getElem this]
      show some (l.toList.reverse.getD i .none) = _
      rw [List.getD_eq_getElem?_getD, List.getElem?_eq_getElem this]
      rfl
    · rw [List.getElem?_eq_none (by simpa using hi), List.getElem?_eq_none (by simpa using hi)]
  · intro m hm
    have hm := List.mem_range.mp hm
    have h2 : m < l.toList.length := by simpa using hm
    rw [List.getD_eq_getElem?_getD, List.getElem?_reverse h2]
    have e : (((l.size : Nat) : Int) - 1 + (m : Int) * (-1)).toNat = l.toList.length - 1 - m := by
      rw [Array.length_toList]
      omega
    rw [e, ← Array.getElem?_toList, List.getElem?_eq_getElem (by omega)]
    rfl
end
end HT
namespace HT
open PySem PySem.Spec PyProof.Rows PySem.Calls
section
variable {prog : Program} {w : World} {A : Around} {E : Value → Shared → Prop} {s : Shared}
theorem getItem_tuple_rev {t sl : Addr} {items : Array Value} {vl vu vs : Value} {Q : Value → Shared → Prop} (ht : IsTup s.heap t items) (hs : s.heap.IsSliceOf sl vl vu vs) (pl : IsPart vl none) (pu : IsPart vu none) (ps : IsPart vs (some (-1)))
    (h : Q (.ref s.heap.objs.size) { s with heap := s.heap.push { cls := .type "tuple", data := .seq items.toList.reverse.toArray } }) (hsz : items.size ≤ sizeLine) : wpAny (model prog w) A (getItem (.ref t) (.ref sl)) Q E s := by
  have fits : sizeOk (.seq items.toList.reverse.toArray) := by
    show items.toList.reverse.toArray.size ≤ sizeLine
    simpa using hsz
  obtain ⟨os, o1, o2, o3⟩ := id hs
  have ty : s.TypeIs (.ref sl) "slice" := ⟨os, o1, o2⟩
  unfold getItem
  try with_reducible refine wpAny_holding ?_
  first | refine wpAny_bind (wpAny_pure ?_) | skip
  refine wpAny_bind (wpAny_sequenceKey ht.typeIs (by decide) ?_)
  refine wpAny_bind (wpAny_callSpecial?_slot (name := Str.ofString "__getitem__") ht.typeIs slot_tuple_getitem (wpAny_call_entry slot_tuple_getitem ht.typeIs entry_tuple_getitem ?_ (args_tuple_getitem _ _)))
  show wpAny _ _ (Builtin.Tuple.tupleItemsOf (.ref t) >>= _) _ _ s
  refine wpAny_bind (tupleItemsOf_ ht (wpAny_bind (wpAny_typeOf ty ?_)))
  rw [if_pos (show _ = true by decide)]
  refine wpAny_bind (applied_rev hs pl pu ps ?_)
  have no : ¬ (((((items.size : Nat) : Int) - 1) == 0 && (-1 : Int) == 1 && items.size == items.size) = true) := by
    intro q
    rw [Bool.and_eq_true, Bool.and_eq_true] at q
    exact absurd (eq_of_beq q.1.2) (by decide)
  show wpAny _ _ (if ((((items.size : Nat) : Int) - 1) == 0 && (-1 : Int) == 1 && items.size == items.size) = true then _ else _) _ _ s
  rw [if_neg no, fm_rev]
  exact wpAny_bind (m := Builtin.Tuple.tupleExact _) (wpAny_newObj_type (wpAny_pure ⟨_, rfl, wpAny_pure h⟩) fits)
end
end HT
namespace PV
open PySem PySem.Spec PyProof.Rows L2
def tRevA (K : PySem.W.Frag) (te : TE) : TE := fun σ H Q => te σ H fun x H1 => (∃ a xs, x = .ref a ∧ SqL K H1 a xs ∧ ∀ p, H1 p = none → Q (.ref p) (upd H1 p (.lst xs.reverse))) ∨ (∃ a xs, x = .ref a ∧ SqT K H1 a xs ∧ ∀ p, H1 p = none → Q (.ref p) (upd H1 p (.tup xs.reverse)))
theorem pe_revA {X : Cx} {e : Expr} {te : TE} {k : Nat} {p1 p2 p3 pos : Pos} (he : PE X e te) : PE X (.Subscript e (.Slice none none (some (.UnaryOp .USub (.Constant (.int 1) k p1) p2)) p3) pos) (tRevA X.K te) := by
  constructor
  intro pins s σ H Q I h
  refine Subscript_ (thn (he.run pins s σ H _ I h) fun v s1 q => ?_)
  have st : PO X (some (.UnaryOp .USub (.Constant (.int 1) k p1) p2)) (tPart (tUn (rU fun i => .int (-i)) (tC (.int 1)))) := po_some (pe_un un_neg pe_int)
  obtain ⟨x, H1, I1, r1, q⟩ := q
  refine wpAny_Slice (thn (po_none.run pins s1 σ H1 (fun o H2 => o = none ∧ H2 = H1) I1 ⟨rfl, rfl⟩) fun vl s2 q2 => ?_)
  obtain ⟨l, H2, I2, pl, rfl, rfl⟩ := q2
  refine thn (po_none.run pins s2 σ H2 (fun o H3 => o = none ∧ H3 = H2) I2 ⟨rfl, rfl⟩) fun vu s3 q3 => ?_
  obtain ⟨u, H3, I3, pu, rfl, rfl⟩ := q3
  refine thn (st.run pins s3 σ H3 (fun o H4 => o = some (-1) ∧ H4 = H3) I3 ⟨1, rfl, -1, rfl, rfl, rfl⟩) fun vs s4 q4 => ?_
  obtain ⟨o, H4, I4, ps, rfl, rfl⟩ := q4
  have I5 : Inv X pins σ H4 { s4 with heap := s4.heap.push { cls := .type "slice", data := .fields #[vl, vu, vs] } } := I4.kept (t' := s4.toks) fun b ob q => Heap.get?_push_of_some _ q
  rcases q with ⟨a, xs, rfl, hx, q⟩ | ⟨a, xs, rfl, hx, q⟩
  · cases r1
    obtain ⟨its, r, ht, hz⟩ := I5.list hx
    have e1 := r.length
    show wpAny (model X.prog X.w) X.A (subscriptTail e (.Slice none none (some (.UnaryOp .USub (.Constant (.int 1) k p1) p2)) p3) (.ref a) (.ref s4.heap.objs.size)) (EP X pins σ Q) X.xe _
    refine tail_any (ops := [.ref a, .ref s4.heap.objs.size]) ht.isList.typeIs (PySem.slot_list_getitem.lookup) (wpAny_getItem_list_slice ht.isList (Heap.IsSliceOf.new _ vl vu vs) pl pu ps (by decide) ?_ (by rw [List.size_toArray]; omega)) (by with_unfolding_all rfl)
    rw [PySem.W.krv_pick]
    exact ⟨.ref _, _, I5.laid (t' := s4.toks) (o := .lst xs.reverse) (fun b ob q => Heap.get?_push_of_some _ q) (Nat.le_refl _) ⟨by rw [List.length_reverse]; exact hz, _, 0, r.reverse, Heap.get?_push_size _ rfl⟩, rfl, q _ (I5.hok.fresh (Nat.le_refl _))⟩
  · cases r1
    obtain ⟨its, r, ht, hz⟩ := I5.tuple hx
    have e1 := r.length
    show wpAny (model X.prog X.w) X.A (subscriptTail e (.Slice none none (some (.UnaryOp .USub (.Constant (.int 1) k p1) p2)) p3) (.ref a) (.ref s4.heap.objs.size)) (EP X pins σ Q) X.xe _
    refine tail_any (ops := [.ref a, .ref s4.heap.objs.size]) ht.typeIs (slot_tuple_getitem.lookup) (HT.getItem_tuple_rev ht (Heap.IsSliceOf.new _ vl vu vs) pl pu ps ?_ (by rw [List.size_toArray]; omega)) (by with_unfolding_all rfl)
    exact ⟨.ref _, _, I5.laid (t' := s4.toks) (o := .tup xs.reverse) (fun b ob q => Heap.get?_push_of_some _ q) (Nat.le_refl _) ⟨by rw [List.length_reverse]; exact hz, _, r.reverse, IsTup.new _ _⟩, rfl, q _ (I5.hok.fresh (Nat.le_refl _))⟩
theorem reps_rev {S : Sg} {F : Hp} : ∀ {ds : List D} {xs : List V}, Reps S F ds xs → Reps S F ds.reverse xs.reverse
  | [], xs, h => by cases (show xs = [] from h); exact rfl
  | d :: ds, _, ⟨v, vs, rfl, h1, h2⟩ => by
    rw [List.reverse_cons, List.reverse_cons]
    exact (reps_rev h2).append (Reps.one h1)
variable {S : Sg}
theorem RS.rev {t : TE} {w : WR} (h : RS S t w) : RS S (tRevA S.K t) (fun env Q => w env fun r e1 => rdK e1 r fun d => match d with
    | .lst xs => Q (.fr (.lst xs.reverse)) e1
    | .tup xs => 1 ≤ xs.length ∧ Q (.val (.tup xs.reverse)) e1
    | .tpn xs => 1 ≤ xs.length ∧ Q (.val (.tup xs.reverse)) e1
    | _ => False) := by
  intro Z F env σ H Q Q' s hw k
  refine h Z F env σ H _ _ s hw fun F1 H1 x r1 e1 q1 s1 i1 rr1 => ?_
  obtain ⟨d, g1, q1⟩ := rdK_some q1
  have fin : ∀ {r : RR}, Q r e1 → ∀ F' H' v r', r' = r → Same F1 F' → SR S Z F' e1 σ H' → RRel S Z F' H' σ e1 r' v → Q' v H' := fun q F' H' v r' e s2 i2 rr => by subst e; exact k F' H' v _ e1 q (s1.trans s2) i2 rr
  cases d with
  | lst xs =>
    obtain ⟨a, us, rfl, h1, h2⟩ := (now_rr i1 rr1 g1).lst i1.same
    exact .inl ⟨a, us, rfl, SqL.of h1, fin_new (Q := fun r' => r' = .fr (.lst xs.reverse)) i1 rfl (reps_rev h2) (fin q1)⟩
  | tup xs =>
    obtain ⟨a, us, rfl, h1, h2⟩ := (now_rr i1 rr1 g1).tup i1.same
    exact .inr ⟨a, us, rfl, h1, fin_tup (Q := fun r' => r' = .val (.tup xs.reverse)) i1 rfl (reps_rev h2) (fin q1.2)⟩
  | tpn xs =>
    obtain ⟨a, us, rfl, _, h1, h2⟩ := (now_rr i1 rr1 g1).tpn i1.same
    exact .inr ⟨a, us, rfl, h1, fin_tup (Q := fun r' => r' = .val (.tup xs.reverse)) i1 rfl (reps_rev h2) (fin q1.2)⟩
  | _ => exact q1.elim
theorem RS.dnew : RS S tDNewK (fun env Q => Q (.fr (.dct [] [])) env) := by
  intro Z F env σ H Q Q' s hw k
  exact fun p hp => k F _ _ (.fr (.dct [] [])) env hw (Same.refl F) (sr_newH s hp) (mine_new s hp ⟨[], rfl, rfl, rfl⟩)
theorem lstAt_ok' {i : Nat} {env : Ev} (h : lstAt i env) : ∃ ds, env[i]? = some (.own (.lst ds)) := by
  unfold lstAt at h
  split at h
  · rename_i ds e; exact ⟨ds, e⟩
  · exact h.elim
theorem reps_at {F : Hp} : ∀ {ds : List D} {xs : List V} {k : Nat} {d : D}, Reps S F ds xs → ds[k]? = some d → ∃ x, xs[k]? = some x ∧ Rep S F d x
  | [], _, k, d, _, e => by simp at e
  | d0 :: ds, _, 0, d, ⟨v, vs, rfl, h1, h2⟩, e => by
    simp at e
    subst e
    exact ⟨v, rfl, h1⟩
  | d0 :: ds, _, k + 1, d, ⟨v, vs, rfl, h1, h2⟩, e => by
    obtain ⟨x, g1, g2⟩ := reps_at h2 (by simpa using e)
    exact ⟨x, by simpa using g1, g2⟩
theorem reps_cut {F : Hp} : ∀ {ds : List D} {xs : List V} (k : Nat), Reps S F ds xs → Reps S F (ds.eraseIdx k) (xs.eraseIdx k)
  | [], _, k, h => by cases (show _ = [] from h); simpa using (show Reps S F [] [] from rfl)
  | d0 :: ds, _, 0, ⟨v, vs, rfl, h1, h2⟩ => h2
  | d0 :: ds, _, k + 1, ⟨v, vs, rfl, h1, h2⟩ => ⟨v, vs.eraseIdx k, rfl, h1, reps_cut k h2⟩
theorem RS.pop {i : Nat} {t : TE} {w : WR} (h : RS S t w) : RS S (tBM S.K "list" rPopAt (tVar i) (tCons t tNil)) (fun env Q => lstAt i env ∧ w env fun r e1 => rdK e1 r fun d => match d, e1[i]? with
    | .int n, some (.own (.lst ds)) => (0 ≤ n ∧ n < 16777216) ∧ ∃ x, ds[n.toNat]? = some x ∧ Q (.val x) (e1.set i (.own (.lst (ds.eraseIdx n.toNat))))
    | _, _ => False) := by
  intro Z F env σ H Q Q' s hw k
  obtain ⟨ho, hw⟩ := hw
  obtain ⟨d0, ho⟩ := lstAt_ok' ho
  obtain ⟨a, u, g1, g2, g3, _⟩ := s.own i _ ho
  obtain ⟨vs0, rfl, _⟩ := g3
  refine ⟨V.ref a, g1, .inl ⟨rfl, vs0, SqL.of g2⟩, ?_⟩
  refine h Z F env σ H _ _ s hw fun F1 H1 v r e1 q s1 i1 rr => ?_
  obtain ⟨d, gd, q⟩ := rdK_some q
  split at q
  · rename_i n ds e2
    obtain ⟨⟨n0, n1⟩, x, hx, q⟩ := q
    have hv : v = .int n := (now_rr i1 rr gd).int
    subst hv
    obtain ⟨b, u2, p1, p2, p3, p4, p5⟩ := i1.own i _ e2
    rw [g1] at p1
    cases p1
    obtain ⟨vs, rfl, rvs⟩ := p3
    obtain ⟨y, hy, ry⟩ := reps_at rvs hx
    have lt : n.toNat < vs.length := (List.getElem?_eq_some_iff.mp hy).1
    refine ⟨a, vs, n, n.toNat, y, rfl, rfl, p2, by omega, by omega, ?_, hy, ?_⟩
    · unfold seqIndex?
      simp only [show ¬ n < 0 by omega, if_false]
      rw [if_pos (by rw [Bool.and_eq_true]; exact ⟨decide_eq_true n0, decide_eq_true (by omega)⟩)]
    · exact k F1 _ _ _ _ q s1 (sr_write (d' := .lst (ds.eraseIdx n.toNat)) i1 e2 g1 ⟨_, rfl, reps_cut _ rvs⟩) ry
  · exact q.elim
/-! TABLE.get(text, int), of a dict of the module -/
def tKget (K : PySem.W.Frag) (d : Addr) (ty : TE) : TE := fun σ H Q => ty σ H fun y H2 => ∃ (z : Str) (u : Value) (v : V), y = .str z ∧ PySem.W.nsIn K d z = some (some u) ∧ RelV v u ∧ Q v H2
theorem pe_kget {X : Cx} {o e f : Expr} {apos cpos : Pos} {d : Addr} {es : Array DictEntry} {n : Nat} {ty : TE} {c : V} (D : KDict X.K X.w d es n) (ho : PE X o (tC (.ref d))) (he : PE X e ty) (hf : PE X f (tC c)) (hb : attributeBase o "get" X.env (eval o X.env) = eval o X.env)
    (hl : (apos.endLine == cpos.line) = true) (h1 : noStar e = true) (h2 : noStar f = true) : PE X (.Call (.Attribute o "get" apos) [e, f] [] cpos) (tKget X.K d ty) := by
  constructor
  intro pins s σ H Q I h
  have m : M2 X o "get" apos e f cpos := by
    have s1 : starEach [e, f] X.env = (false, eval e X.env) :: starEach [f] X.env := star_cons h1
    have s2 : starEach [f] X.env = (false, eval f X.env) :: starEach [] X.env := star_cons h2
    refine ⟨hb, ?_, hl, ?_⟩
    · rw [s1, s2]; rfl
    · rw [s1, s2]; rfl
  refine wpAny_Call_method m.base m.few m.line PySem.F.plainAttrs_dict PySem.F.slot_dict_get PySem.F.type_dict_get (thn (ho.run pins s σ H (fun x H1 => x = .ref d ∧ H1 = H) I ⟨rfl, rfl⟩) fun u s1 q1 => ?_)
  obtain ⟨x, H1, I1, rx, rfl, rfl⟩ := q1
  obtain rfl : u = Value.ref d := rx
  have mp := PySem.W.mapOf_K (prog := X.prog) I1.kIn D.at_ D.lit
  refine ⟨kd_type D I1, fun b q => ?_, ?_⟩
  · cases q
    exact ⟨_, I1.kIn _ _ D.at_, rfl⟩
  rw [m.trees]
  refine Calls.callWith_builtin rfl (Calls.evalArgs_plain (Calls.spliced_cons (thn (he.run pins s1 σ H1 _ I1 h) fun iv s2 q2 => ?_)))
  obtain ⟨y, H2, I2, ry, z, u, v, rfl, hz, rv, q⟩ := q2
  refine Calls.spliced_cons (thn (hf.run pins s2 σ H2 (fun x H3 => H3 = H2) I2 rfl) fun fv s3 q3 => Calls.spliced_nil ?_)
  obtain ⟨w3, H3, I3, rz, rfl⟩ := q3
  obtain ⟨t, rfl⟩ := ry
  have mp3 := PySem.W.mapOf_K (prog := X.prog) I3.kIn D.at_ D.lit
  refine call_meetsIn PySem.F.slot_dict_get mp3.typeIs PySem.F.entry_dict_get (PySem.F.args_dict_get_3 _ _ _) (meets_dict_get_default (PySem.strKind X.prog X.w) d (PySem.strKind_is X.prog X.w z t) D.low fv) ⟨_, mp3, ?_⟩
  rw [PySem.W.find_K D.at_ hz]
  exact ⟨v, H3, I3.tok _, rv, q⟩
theorem tabAt_mem : ∀ {kvs : List (Str × Int)} {z : Str} {n : Int}, tabAt kvs z = some n → (z, n) ∈ kvs
  | (k, m) :: r, z, n, h => by
    unfold tabAt at h
    split at h
    · rename_i e
      cases h
      subst e
      exact List.mem_cons_self
    · exact List.mem_cons_of_mem _ (tabAt_mem h)
theorem RS.cget {t : TE} {w : WR} {d : Addr} {kvs : List (Str × Int)} (h : RS S t w) (hk : ∀ q ∈ kvs, ∃ u, PySem.W.nsIn S.K d q.1 = some (some u) ∧ RelV (.int q.2) u) : RS S (tKget S.K d t) (fun env Q => w env fun r e1 => rdK e1 r fun d => match d with
    | .str z => ∃ n, tabAt kvs z = some n ∧ Q (.val (.int n)) e1
    | _ => False) := by
  intro Z F env σ H Q Q' s hw k
  refine h Z F env σ H _ _ s hw fun F1 H1 x r1 e1 q1 s1 i1 rr1 => ?_
  obtain ⟨d, g1, q1⟩ := rdK_some q1
  split at q1
  · rename_i z
    obtain ⟨n, e, q⟩ := q1
    obtain ⟨u, h1, h2⟩ := hk _ (tabAt_mem e)
    exact ⟨z, u, .int n, (now_rr i1 rr1 g1).str, h1, h2, k F1 H1 _ _ e1 q s1 i1 rfl⟩
  · exact q1.elim
end PV

/-! PV: what matches is what the small language says: the recursion over expressions. -/
namespace PV
open PySem L2

def DR (X : Cx) (S : Sg) (e : Expr) (w : WR) : Prop := ∃ t, PE X e t ∧ RS S t w
def DT (X : Cx) (S : Sg) (e : Expr) (w : WT) : Prop := ∃ t, PT X e t ∧ RT S t w
def DW (X : Cx) (S : Sg) (e : Expr) (w : WT) : Prop := ∃ t, PW X e t ∧ RT S t w
def DL (X : Cx) (S : Sg) (es : List Expr) (w : Ev → (List RR → Ev → Prop) → Prop) : Prop := ∃ t, PA X es t ∧ RL S t w
def DO (X : Cx) (S : Sg) (e : Option Expr) (w : Ev → (Option Int → Ev → Prop) → Prop) : Prop := ∃ t, PO X e t ∧ RO S t w
def DI (X : Cx) (S : Sg) (tg e : Expr) (w : Ev → (List (RR × D) → List D → Ev → Prop) → Prop) : Prop := ∃ t, PI X tg e t ∧ RI S t w
def DG (X : Cx) (S : Sg) (e : Expr) (tg : Tg) : Prop := ∃ g, PG X e g ∧ RG S g tg
def DGs (X : Cx) (S : Sg) (es : List Expr) (tgs : List Tg) : Prop := ∃ g, PGs X es g ∧ RGs S g tgs
def DFs (X : Cx) (S : Sg) (es : List Expr) (w : WT) : Prop := ∃ t, PTs X es t ∧ RT S t w

/-! ### one reading whatever the block -/
def canR (S : Sg) (w : WR) : TE := fun σ H Q => ∀ t, RS S t w → t σ H Q
def canT (S : Sg) (w : WT) : TT := fun σ H Q => ∀ t, RT S t w → t σ H Q
def canG (S : Sg) (tg : Tg) : TG := fun v σ H Q => ∀ g, RG S g tg → g v σ H Q
theorem canR_s {S : Sg} {w : WR} : RS S (canR S w) w := fun Z F env σ H Q Q' s hw k t ht => ht Z F env σ H Q Q' s hw k
theorem canT_s {S : Sg} {w : WT} : RT S (canT S w) w := fun Z F env σ H Q Q' s hw k t ht => ht Z F env σ H Q Q' s hw k
theorem canG_s {S : Sg} {tg : Tg} : RG S (canG S tg) tg := fun Z F env σ H d v env' Q' s r b k g hg => hg Z F env σ H d v env' Q' s r b k
theorem DR.can {X : Cx} {S : Sg} {e : Expr} {w : WR} (h : DR X S e w) : PE X e (canR S w) := by
  obtain ⟨t, p, q⟩ := h
  exact ⟨fun pins s σ H Q I k => p.run pins s σ H Q I (k t q)⟩
theorem DFs.can {X : Cx} {S : Sg} {es : List Expr} {w : WT} (h : DFs X S es w) : PTs X es (canT S w) := by
  obtain ⟨t, p, q⟩ := h
  exact ⟨fun pins s σ H Q I k => p.run pins s σ H Q I (k t q)⟩
theorem DG.can {X : Cx} {S : Sg} {e : Expr} {tg : Tg} (h : DG X S e tg) : PG X e (canG S tg) := by
  obtain ⟨t, p, q⟩ := h
  exact ⟨fun pins s σ H v u Q I r k => p.run pins s σ H v u Q I r (k t q)⟩
theorem set_of {e : Expr} (h : notSet e = true) (env : Env) (x : Value) : foldedSetIterable e env x = pure x := by
  cases e <;> first
    | rfl
    | cases h
theorem cmpI_set {G : Gt} {it : Wk} {c : Cs} {t e : Expr} (h : cmpI G it c t e = true) : notSet e = true := by
  cases e <;> first
    | rfl
    | (cases it <;> first | exact absurd (show false = true from h) Bool.false_ne_true | (cases t <;> exact absurd (show false = true from h) Bool.false_ne_true))

section
variable {X : Cx} {S : Sg} {G : Gt} {c : Cs}
theorem XOk.units {X : Cx} (x : XOk X S G c) : X.A.units + 64 < cLine := x.room.units
theorem XOk.gl {x : Str} (o : XOk X S G c) (h : glbB c.sc x = true) : Gl X x := by
  show X.env.scope.names.lookup x = _
  rw [o.sc]
  unfold glbB lk at h
  split at h <;> first
    | assumption
    | cases h
theorem XOk.vis {x : Str} (o : XOk X S G c) (h : visB c.sc x = true) : Vis X.env.scope x := by
  unfold Vis
  rw [o.sc]
  unfold visB lk at h
  split at h <;> first
    | exact .inl (by assumption)
    | exact .inr (.inl (by assumption))
    | exact .inr (.inr (by assumption))
    | cases h
theorem plain3 {x : Str} (h : plainN x = true) : (x == ("__debug__" : Str)) = false ∧ (x == ("__classdict__" : Str)) = false ∧ (x == ("__name__" : Str)) = false := by
  unfold plainN at h
  simp only [Bool.and_eq_true, Bool.not_eq_true'] at h
  exact ⟨h.1.1, h.1.2, h.2⟩
/-- a plain value also as a test -/
theorem both {e : Expr} {w : WR} (o : XOk X S G c) (h : DR X S e w) (he : ∀ whole, isTrue e X.env whole = (do let v ← whole; standAt e.pos; holding [v] (truthy v))) : DR X S e (dfl w).1 ∧ DT X S e (dfl w).2 := by
  obtain ⟨t, h1, h2⟩ := h
  exact ⟨⟨t, h1, h2⟩, _, pt_truth h1 he, h2.tst o.w.hK⟩
/-- a comparison as a test -/
theorem RT.cmpB {ta tb : TE} {wa wb : WR} (ha : RS S ta wa) (hb : RS S tb wb) {r : R2} {op : D → D → (Bool → Prop) → Prop} (ho : OpB S r op) :
    RT S (tTest (tOp r ta tb)) (tst fun env Q => wa env fun r1 e1 => wb e1 fun r2 e2 => rdK e2 r1 fun d1 => rdK e2 r2 fun d2 => op d1 d2 fun b => Q (.val (.bl b)) e2) := by
  intro Z F env σ H Q Q' s hw k
  refine RS.two ha hb (P := fun d1 d2 e2 => op d1 d2 fun b => Q b e2) (R := fun x y H2 => r x y H2 fun x H' => ∃ k, x = .bl k ∧ Q' k H') s hw fun Z' F' H' x y d1 d2 env' p le e s' r1 r2 => ?_
  exact ho Z' F' env' σ H' d1 d2 x y _ _ s' r1 r2 p fun b q => ⟨b, rfl, k F' H' b env' q e (sr_weak le s')⟩
theorem RT.chainB {ta tb tc : TE} {wa wb wc : WR} (ha : RS S ta wa) (hb : RS S tb wb) (hc : RS S tc wc) {r r' : R2} {o o' : D → D → (Bool → Prop) → Prop} (ho : OpB S r o) (ho' : OpB S r' o') :
    RT S (tTest (tChain r r' ta tb tc)) (tst fun env Q => wa env fun r1 e1 => wb e1 fun r2 e2 => rdK e2 r1 fun d1 => rdK e2 r2 fun d2 => o d1 d2 fun t =>
      ifB t (wc e2 fun r3 e3 => rdK e3 r2 fun d2' => rdK e3 r3 fun d3 => o' d2' d3 fun t' => Q (.val (.bl t')) e3) (Q (.val (.bl false)) e2)) := by
  intro Z F env σ H Q Q' s hw k
  refine ha Z F env σ H _ _ s hw fun F1 H1 x r1 e1 q1 s1 i1 rr1 => ?_
  refine hb _ F1 e1 σ H1 _ _ (zx_sr i1 rr1) q1 fun F2 H2 y r2 e2 q2 s2 i2 rr2 => ?_
  obtain ⟨d1, g1, q2⟩ := rdK_some q2
  obtain ⟨d2, g2, q2⟩ := rdK_some q2
  refine ho _ F2 e2 σ H2 d1 d2 x y _ _ i2 (keep_rr rr1 s2 i2 g1) (now_rr i2 rr2 g2) q2 fun b q3 => ⟨b, rfl, ?_⟩
  cases b with
  | false => exact ⟨false, rfl, k F2 H2 false e2 (ifB_f q3) (s1.trans s2) (sr_weak (zx_le rr1) i2)⟩
  | true =>
    refine hc _ F2 e2 σ H2 _ _ (zx_sr i2 rr2) (ifB_t q3) fun F3 H3 z r3 e3 q3 s3 i3 rr3 => ?_
    obtain ⟨d2', g2', q3⟩ := rdK_some q3
    obtain ⟨d3, g3, q3⟩ := rdK_some q3
    exact ho' _ F3 e3 σ H3 d2' d3 y z _ _ i3 (keep_rr rr2 s3 i3 g2') (now_rr i3 rr3 g3) q3 fun b q => ⟨b, rfl, k F3 H3 b e3 q ((s1.trans s2).trans s3) (sr_weak (fun a o h => zx_le rr2 a o (zx_le rr1 a o h)) i3)⟩
theorem XOk.blk {scope : Scope} (o : XOk X S G c) (s : Shared) (H : Hp) (C : Addr) (cl : List (Str × Addr)) (fp : List Addr) : XOk (X.blk s H scope (compEnvC scope cl C X.env) fp) S G (blkS c scope) := by
  refine ⟨o.w, o.N, o.nd, ?_, fun x h1 h2 => ?_, o.calm, o.room, o.gd, rfl, fun z => by cases z⟩
  · show relS scope X.env.scope = _
    rw [o.sc]; rfl
  · show (scope.names.lookup x == some .cell) = true
    have h2 : lk scope x = some .cell := h2
    unfold lk at h2
    rw [h2]; rfl
theorem storeB_ok {i : Nat} {x : Str} (o : XOk X S G c) (h : storeB c i x = true) : X.N[i]? = some x ∧ L2.Loc X.env.scope x ∧ (X.fn x = true ∨ X.env.scope.names.lookup x = some .local) := by
  unfold storeB at h
  simp only [Bool.and_eq_true, decide_eq_true_eq] at h
  obtain ⟨h1, h2⟩ := h
  unfold L2.Loc
  rw [o.N, o.sc]
  refine ⟨h1, ?_⟩
  cases q : lk c.sc x with
  | none => rw [q] at h2; cases h2
  | some k =>
    cases k with
    | «local» => exact ⟨.inl q, .inr q⟩
    | cell =>
      rw [q] at h2
      refine ⟨.inr q, .inl (o.fn x q ?_)⟩
      cases w : c.oc with
      | none => trivial
      | some sc2 =>
        rw [w] at h2
        show lk sc2 x = some .cell
        cases w2 : lk sc2 x with
        | none => simp [w2] at h2
        | some k2 => cases k2 <;> simp [w2] at h2 <;> rfl
    | _ => rw [q] at h2; cases h2
mutual
theorem so_T (o : XOk X S G c) : ∀ (t : Tg) (e : Expr), cmpT c t e = true → DG X S e t
  | .nm i, e, h => by
    cases e <;> first
      | cases h
      | skip
    rename_i x pos
    obtain ⟨h1, h2, h3⟩ := storeB_ok o h
    exact ⟨_, pg_name o.nd h1 h2 h3, RG.nm⟩
  | .tp ts, e, h => by
    cases e <;> first
      | cases h
      | skip
    rename_i es k pos
    obtain ⟨g, h1, h2, hl, hst, hm⟩ := so_Ts o ts es h
    have hst' : (assignEach es X.env).findIdx? (·.1) = none := hst
    have h3 := pg_sq (k := k) (pos := pos) o.calm h1 rfl hst'
    rw [o.w.hK.symm] at h3
    exact ⟨_, h3, RG.tp h2 hl⟩
theorem so_Ts (o : XOk X S G c) : ∀ (ts : List Tg) (es : List Expr), cmpTs c ts es = true → ∃ g, PGs X es g ∧ RGs S g ts ∧ ts.length = (assignEach es X.env).length ∧ (assignEach es X.env).findIdx? (·.1) = none ∧ True
  | [], es, h => by
    cases es with
    | nil => exact ⟨_, pgs_nil, RGs.nil, rfl, rfl, trivial⟩
    | cons e es => cases h
  | t :: ts, es, h => by
    cases es with
    | nil => cases h
    | cons e es =>
      have h : (noStar e && cmpT c t e && cmpTs c ts es) = true := h
      simp only [Bool.and_eq_true] at h
      obtain ⟨g1, p1, r1⟩ := so_T o t e h.1.2
      obtain ⟨g2, p2, r2, l2, s2, _⟩ := so_Ts o ts es h.2
      have ha : assignEach (e :: es) X.env = (false, assign e X.env) :: assignEach es X.env := by
        cases e <;> first
          | rfl
          | (exact absurd (show false = true from h.1.1) Bool.false_ne_true)
      refine ⟨_, pgs_cons p1 p2 (by rw [ha]; rfl), RGs.cons r1 r2, by rw [ha]; simp [l2], ?_, trivial⟩
      rw [ha, List.findIdx?_cons]
      simp
      intro a b
      have := List.findIdx?_eq_none_iff.mp s2 (true, a) b
      simp at this
end
theorem RO.tests_nil : RT S tYes (fun env Q => Q true env) := fun Z F env σ H Q Q' s hw k => k F H true env hw (Same.refl F) s

theorem cls_at {cl : Nat} {x : Str} (o : XOk X S G c) (h : G.cn[cl]? = some x) : Cls S.K (S.ca cl) ∧ X.mg x = some (.ref (S.ca cl)) ∧ (S.lay cl).Nodup ∧ ∀ (k : Nat) (y : Str), (S.lay cl)[k]? = some y → NoAttr S.K (S.ca cl) y := by
  have := o.w.cls cl x h
  rw [← o.w.hK] at this
  exact this
theorem nostar_of : ∀ {as : List A} {es : List Expr}, cmpAs G as c es = true → ∀ e ∈ es, noStar e = true
  | [], es, h, e, he => by
    cases es with
    | nil => simp at he
    | cons _ _ => cases h
  | a :: as, es, h, e, he => by
    cases es with
    | nil => cases h
    | cons y ys =>
      have h : (noStar y && cmpA G a c y && cmpAs G as c ys) = true := h
      simp only [Bool.and_eq_true] at h
      rcases List.mem_cons.mp he with rfl | he
      · exact h.1.1
      · exact nostar_of h.2 e he
theorem fnB_at {f : Nat} {x : Str} (o : XOk X S G c) (h : fnB G f x = true) : ∃ i a, G.fi[f]? = some i ∧ X.mg x = some (.ref a) ∧ PySem.W.keepIn X.K (.ref a) = true ∧ Room i.lv X.A ∧ FnG X.prog X.w X.K X.mg X.base CX0 i.lv a (spOf S i.io (G.sp f)) := by
  unfold fnB at h
  cases q : G.fi[f]? with
  | none => rw [q] at h; cases h
  | some i =>
    rw [q] at h
    simp only [Bool.and_eq_true, decide_eq_true_eq] at h
    have w := o.w.fns f i q (h.1)
    unfold FT at w
    cases kd : i.kd with
    | fn y =>
      rw [kd] at h w
      have e : y = x := of_decide_eq_true h.2
      subst e
      obtain ⟨a, h1, h2, h3⟩ := w
      exact ⟨i, a, rfl, h1, h2, o.room.mono h.1, h3⟩
    | _ => rw [kd] at h; exact absurd h.2 Bool.false_ne_true
theorem methB_at {cl f : Nat} {x : Str} (o : XOk X S G c) (h : methB G cl f x = true) : ∃ i a, G.fi[f]? = some i ∧ Cls X.K (S.ca cl) ∧ Meth X.K (S.ca cl) x a ∧ x ∉ S.lay cl ∧ Room i.lv X.A ∧ FnG X.prog X.w X.K X.mg X.base CX0 i.lv a (spOf S i.io (G.sp f)) := by
  unfold methB at h
  cases q : G.fi[f]? with
  | none => rw [q] at h; cases h
  | some i =>
    rw [q] at h
    simp only [Bool.and_eq_true, decide_eq_true_eq, Bool.not_eq_true'] at h
    obtain ⟨⟨⟨h1, h2⟩, h3⟩, h4⟩ := h
    obtain ⟨cx, hcx⟩ := Option.isSome_iff_exists.mp h4
    have w := o.w.fns f i q (h1)
    unfold FT at w
    cases kd : i.kd with
    | meth c' y =>
      rw [kd] at h2 w
      simp only [Bool.and_eq_true, decide_eq_true_eq] at h2
      obtain ⟨rfl, rfl⟩ := h2
      obtain ⟨a, g1, g2⟩ := w
      refine ⟨i, a, rfl, (o.w.cls _ _ hcx).1, g1, ?_, o.room.mono h1, g2⟩
      rw [o.w.lay]
      intro z
      rw [List.contains_iff_mem.mpr z] at h3
      cases h3
    | _ => rw [kd] at h2; exact absurd h2 Bool.false_ne_true
theorem dunB_at {op : BOp} {cl f : Nat} (o : XOk X S G c) (h : dunB G op cl f = true) : ∃ i a, G.fi[f]? = some i ∧ Dun X.K op (S.ca cl) a ∧ Room i.lv X.A ∧ FnG X.prog X.w X.K X.mg X.base CX0 i.lv a (spOf S i.io (G.sp f)) := by
  unfold dunB at h
  cases q : G.fi[f]? with
  | none => rw [q] at h; cases h
  | some i =>
    rw [q] at h
    simp only [Bool.and_eq_true, decide_eq_true_eq] at h
    obtain ⟨h1, h2⟩ := h
    have w := o.w.fns f i q h1
    unfold FT at w
    cases kd : i.kd with
    | dun op' c' =>
      rw [kd] at h2 w
      simp only [Bool.and_eq_true, decide_eq_true_eq] at h2
      obtain ⟨rfl, rfl⟩ := h2
      obtain ⟨a, g1, g2⟩ := w
      exact ⟨i, a, rfl, g1, o.room.mono h1, g2⟩
    | _ => rw [kd] at h2; exact absurd h2 Bool.false_ne_true
theorem lenB_at {cl f : Nat} (o : XOk X S G c) (h : lenB G cl f = true) : ∃ i a, G.fi[f]? = some i ∧ Meth X.K (S.ca cl) "__len__" a ∧ Room (i.lv + 1) X.A ∧ FnG X.prog X.w X.K X.mg X.base CX0 i.lv a (spOf S i.io (G.sp f)) := by
  unfold lenB at h
  cases q : G.fi[f]? with
  | none => rw [q] at h; cases h
  | some i =>
    rw [q] at h
    rw [Bool.and_eq_true, decide_eq_true_eq] at h
    obtain ⟨i2, a, g1, _, g3, _, _, g6⟩ := methB_at o h.2
    rw [q] at g1
    cases g1
    exact ⟨i, a, rfl, g3, o.room.mono h.1, g6⟩
theorem strB_at {cl f : Nat} (o : XOk X S G c) (h : strB G cl f = true) : ∃ i a, G.fi[f]? = some i ∧ StrF X.K (S.ca cl) a ∧ Room (i.lv + 1) X.A ∧ FnG X.prog X.w X.K X.mg X.base CX0 i.lv a (spOf S i.io (G.sp f)) := by
  unfold strB at h
  cases q : G.fi[f]? with
  | none => rw [q] at h; cases h
  | some i =>
    rw [q] at h
    simp only [Bool.and_eq_true, decide_eq_true_eq] at h
    obtain ⟨h1, h2⟩ := h
    have w := o.w.fns f i q (Nat.le_trans (Nat.le_succ _) h1)
    unfold FT at w
    cases kd : i.kd with
    | strm c' =>
      rw [kd] at h2 w
      have e : c' = cl := of_decide_eq_true h2
      subst e
      obtain ⟨a, ⟨g1, g2, g3⟩, g4⟩ := w
      exact ⟨i, a, rfl, ⟨g1, g2, g3⟩, o.room.mono h1, g4⟩
    | _ => rw [kd] at h2; exact absurd h2 Bool.false_ne_true
theorem initB_at {cl f : Nat} {x : Str} (o : XOk X S G c) (h : initB G cl f x = true) : ∃ i a, G.fi[f]? = some i ∧ X.mg x = some (.ref (S.ca cl)) ∧ Mk X.K (S.ca cl) a ∧ Room (i.lv + 1) X.A ∧ FnG X.prog X.w X.K X.mg X.base CX0 i.lv a (spOf S i.io (G.sp f)) := by
  unfold initB at h
  cases q : G.fi[f]? with
  | none => rw [q] at h; cases h
  | some i =>
    rw [q] at h
    simp only [Bool.and_eq_true, decide_eq_true_eq] at h
    obtain ⟨⟨h1, h2⟩, h3⟩ := h
    have w := o.w.fns f i q (Nat.le_trans (Nat.le_succ _) h1)
    unfold FT at w
    cases kd : i.kd with
    | init c' =>
      rw [kd] at h2 w
      have e : c' = cl := of_decide_eq_true h2
      subst e
      obtain ⟨a, g1, g2⟩ := w
      exact ⟨i, a, rfl, (o.w.cls _ _ h3).2.1, g1, o.room.mono h1, g2⟩
    | _ => rw [kd] at h2; exact absurd h2 Bool.false_ne_true
theorem methKB_at {cl f n : Nat} {x : Str} {kk : List (Option Str)} (o : XOk X S G c) (h : methKB G cl f x n kk = true) : ∃ i a ks, G.fi[f]? = some i ∧ Cls X.K (S.ca cl) ∧ Meth X.K (S.ca cl) x a ∧ x ∉ S.lay cl ∧ Room i.lv X.A ∧ FnRK X.prog X.w X.K X.mg X.base CX0 i.lv a n ks (spOf S i.io (G.sp f)) ∧ kk = ks.map some := by
  unfold methKB at h
  cases q : G.fi[f]? with
  | none => rw [q] at h; cases h
  | some i =>
    rw [q] at h
    simp only [Bool.and_eq_true, decide_eq_true_eq, Bool.not_eq_true'] at h
    obtain ⟨⟨⟨h1, h2⟩, h3⟩, h4⟩ := h
    obtain ⟨cx, hcx⟩ := Option.isSome_iff_exists.mp h4
    have w := o.w.fns f i q (h1)
    unfold FT at w
    cases kd : i.kd with
    | methK c' y m ks =>
      rw [kd] at h2 w
      simp only [Bool.and_eq_true, decide_eq_true_eq] at h2
      obtain ⟨⟨⟨rfl, rfl⟩, rfl⟩, h5⟩ := h2
      obtain ⟨a, g1, g2⟩ := w
      refine ⟨i, a, ks, rfl, (o.w.cls _ _ hcx).1, g1, ?_, o.room.mono h1, g2, h5.symm⟩
      rw [o.w.lay]
      intro z
      rw [List.contains_iff_mem.mpr z] at h3
      cases h3
    | _ => rw [kd] at h2; exact absurd h2 Bool.false_ne_true
theorem fnKB_at {f n : Nat} {x : Str} {kk : List (Option Str)} (o : XOk X S G c) (h : fnKB G f x n kk = true) : ∃ i a ks, G.fi[f]? = some i ∧ X.mg x = some (.ref a) ∧ PySem.W.keepIn X.K (.ref a) = true ∧ Room i.lv X.A ∧ FnRK X.prog X.w X.K X.mg X.base CX0 i.lv a n ks (spOf S i.io (G.sp f)) ∧ kk = ks.map some := by
  unfold fnKB at h
  cases q : G.fi[f]? with
  | none => rw [q] at h; cases h
  | some i =>
    rw [q] at h
    simp only [Bool.and_eq_true, decide_eq_true_eq] at h
    have w := o.w.fns f i q h.1
    unfold FT at w
    cases kd : i.kd with
    | fnK y m ks =>
      rw [kd] at h w
      have h2 := h.2
      simp only [Bool.and_eq_true, decide_eq_true_eq] at h2
      obtain ⟨⟨rfl, rfl⟩, h3⟩ := h2
      obtain ⟨a, w1, w2, w3⟩ := w
      exact ⟨i, a, ks, rfl, w1, w2, o.room.mono h.1, w3, h3.symm⟩
    | _ => rw [kd] at h; exact absurd h.2 Bool.false_ne_true
theorem statB_at {f : Nat} {x m : Str} (o : XOk X S G c) (h : statB G f x m = true) : ∃ i a C q, G.fi[f]? = some i ∧ X.mg x = some (.ref C) ∧ SMet X.K C m q a ∧ Room i.lv X.A ∧ FnG X.prog X.w X.K X.mg X.base CX0 i.lv a (spOf S i.io (G.sp f)) := by
  unfold statB at h
  cases q : G.fi[f]? with
  | none => rw [q] at h; cases h
  | some i =>
    rw [q] at h
    simp only [Bool.and_eq_true, decide_eq_true_eq] at h
    have w := o.w.fns f i q h.1
    unfold FT at w
    cases kd : i.kd with
    | stat k y =>
      rw [kd] at h w
      have h2 := h.2
      simp only [Bool.and_eq_true, decide_eq_true_eq] at h2
      obtain ⟨rfl, h3⟩ := h2
      obtain ⟨a, p, w1, w2⟩ := w
      exact ⟨i, a, S.ca k, p, rfl, (o.w.cls k x h3).2.1, w1, o.room.mono h.1, w2⟩
    | _ => rw [kd] at h; exact absurd h.2 Bool.false_ne_true
theorem initSB_at {cl f : Nat} {x : Str} (o : XOk X S G c) (h : initSB G cl f x = true) : ∃ i a, G.fi[f]? = some i ∧ X.mg x = some (.ref (S.ca cl)) ∧ Mk X.K (S.ca cl) a ∧ Room (i.lv + 1) X.A ∧ i.io = [true, false] ∧ FnG X.prog X.w X.K X.mg X.base CX0 i.lv a (spRest 1 (spOf S i.io (G.sp f))) := by
  unfold initSB at h
  cases q : G.fi[f]? with
  | none => rw [q] at h; cases h
  | some i =>
    rw [q] at h
    simp only [Bool.and_eq_true, decide_eq_true_eq] at h
    obtain ⟨⟨h1, h2⟩, h3⟩ := h
    have w := o.w.fns f i q (Nat.le_trans (Nat.le_succ _) h1)
    unfold FT at w
    cases kd : i.kd with
    | initS c' =>
      rw [kd] at h2 w
      have e : c' = cl := of_decide_eq_true h2
      subst e
      obtain ⟨a, w1, w2, w3⟩ := w
      exact ⟨i, a, rfl, (o.w.cls _ _ h3).2.1, w1, o.room.mono h1, w2, w3⟩
    | _ => rw [kd] at h2; exact absurd h2 Bool.false_ne_true
theorem bname_mem (b : Bi) : bName b ∈ btNames := by cases b <;> decide
theorem plainIx_of {s : Expr} (h : isSlice s = false) : PlainIx s := by
  intro o i
  cases s <;> first
    | rfl
    | cases h
theorem cmpC_ok {d : D} {k : Const} {n : Nat} {pos : Pos} (h : cmpC d k = true) : ∃ v, PE X (.Constant k n pos) (tC v) ∧ ∀ F, Rep S F d v := by
  cases d <;> cases k <;> first
    | cases h
    | skip
  · exact ⟨.non, pe_non, fun _ => rfl⟩
  · have e := eq_of_beq (show (_ == _) = true from h); subst e; exact ⟨.bl _, pe_bl, fun _ => rfl⟩
  · have e := of_decide_eq_true (show decide (_ = _) = true from h); subst e; exact ⟨.int _, pe_int, fun _ => rfl⟩
  · have e := of_decide_eq_true (show decide (_ = _) = true from h); subst e; exact ⟨.str _, pe_str, fun _ => rfl⟩
end

theorem lit_txt {S : Sg} {G : Gt} {e : E} (h : isTxt e = true) (Z F : Hp) (env : Ev) (σ : L2.St) (H : Hp) (Q : RR → Ev → Prop) (_ : SR S Z F env σ H) (w : (wp2 G e).1 env Q) : (wp2 G e).1 env fun r e1 => Q r e1 ∧ ∃ y, r = .val (.str y) := by
  cases e <;> first
    | cases h
    | skip
  rename_i d
  cases d <;> first
    | cases h
    | skip
  exact ⟨w, _, rfl⟩
set_option linter.unusedVariables false in
mutual
theorem so_E {S : Sg} {G : Gt} : ∀ (ir : E) {X : Cx} {c : Cs} (e : Expr), XOk X S G c → cmpE G ir c e = true → DR X S e (wp2 G ir).1 ∧ DT X S e (wp2 G ir).2
  | .var i, X, c, e, o, h => by
    cases e <;> first
      | cases h
      | skip
    rename_i x pos
    have h : (decide (c.N[i]? = some x) && visB c.sc x && plainN x) = true := h
    simp only [Bool.and_eq_true, decide_eq_true_eq] at h
    obtain ⟨p1, p2, _⟩ := plain3 h.2
    exact both o ⟨_, pe_var (by rw [o.N]; exact h.1.1) (o.vis h.1.2) p1 p2, RS.var⟩ fun _ => rfl
  | .lit d, X, c, e, o, h => by
    cases e <;> first
      | cases h
      | skip
    rename_i k n pos
    obtain ⟨v, h1, h2⟩ := cmpC_ok (X := X) (S := S) (n := n) (pos := pos) (show cmpC d k = true from h)
    exact both o ⟨_, h1, RS.val (fun _ _ _ q => q) h2⟩ fun _ => rfl
  | .glob g, X, c, e, o, h => by
    cases e <;> first
      | cases h
      | skip
    rename_i x pos
    have h : (glbB c.sc x && plainN x && (match G.gl[g]? with | some p => decide (p.1 = x) | none => false)) = true := h
    simp only [Bool.and_eq_true] at h
    cases q : G.gl[g]? with
    | none => rw [q] at h; exact absurd h.2 Bool.false_ne_true
    | some p =>
      rw [q] at h
      have e1 : p.1 = x := of_decide_eq_true h.2
      obtain ⟨y, d⟩ := p
      subst e1
      obtain ⟨u, v, h1, h2, h3⟩ := o.w.gls g y d q
      obtain ⟨p1, p2, _⟩ := plain3 h.1.2
      refine both o ⟨_, pe_glob (o.gl h.1.1) h1 h2 p1, ?_⟩ fun _ => rfl
      have e2 : glbW G.gl[g]? = fun env Q => Q (.val d) env := by rw [q]; rfl
      rw [e2]
      exact RS.val (fun _ _ _ q => q) fun F => Rep.mono (fun a o e => by cases e) d v h3
  | .bin op a b, X, c, e, o, h => by
    cases e <;> first
      | cases h
      | skip
    rename_i l o' r pos
    have h : (decide (o' = bOp op) && cmpE G a c l && cmpE G b c r) = true := h
    simp only [Bool.and_eq_true, decide_eq_true_eq] at h
    obtain ⟨⟨rfl, h1⟩, h2⟩ := h
    obtain ⟨ta, p1, q1⟩ := (so_E a l o h1).1
    obtain ⟨tb, p2, q2⟩ := (so_E b r o h2).1
    have hb := bop_ok (X := X) op
    rw [← o.w.hK] at hb
    exact both o ⟨_, pe_op hb p1 p2, RS.bin q1 q2 (bop_s op)⟩ fun _ => rfl
  | .neg a, X, c, e, o, h => by
    cases e <;> first
      | cases h
      | skip
    rename_i u x pos
    cases u <;> first
      | cases h
      | skip
    obtain ⟨ta, p1, q1⟩ := (so_E a x o h).1
    exact both o ⟨_, pe_un un_neg p1, RS.neg q1⟩ fun _ => rfl
  | .nott a, X, c, e, o, h => by
    cases e <;> first
      | cases h
      | skip
    rename_i u x pos
    cases u <;> first
      | cases h
      | skip
    obtain ⟨⟨ta, p1, q1⟩, ⟨tt, p2, q2⟩⟩ := so_E a x o h
    exact ⟨⟨_, pe_not p1, RS.notV q1⟩, _, pt_not p2, RT.not q2⟩
  | .band es, X, c, e, o, h => by
    cases e <;> first
      | cases h
      | skip
    rename_i u vs pos
    cases u <;> first
      | cases h
      | skip
    obtain ⟨h1, t, p, q⟩ := so_And es vs o h pos
    exact ⟨h1, t, p.pt, q⟩
  | .bor es, X, c, e, o, h => by
    cases e <;> first
      | cases h
      | skip
    rename_i u vs pos
    cases u <;> first
      | cases h
      | skip
    obtain ⟨h1, t, p, q⟩ := so_Or es vs o h pos
    exact ⟨h1, t, p.pt, q⟩
  | .ite t a b, X, c, e, o, h => by
    cases e <;> first
      | cases h
      | skip
    rename_i x y z pos
    have h : (cmpE G t c x && cmpE G a c y && cmpE G b c z) = true := h
    simp only [Bool.and_eq_true] at h
    obtain ⟨_, tt, p0, q0⟩ := so_E t x o h.1.1
    obtain ⟨⟨ta, p1, q1⟩, ⟨sa, p1', q1'⟩⟩ := so_E a y o h.1.2
    obtain ⟨⟨tb, p2, q2⟩, ⟨sb, p2', q2'⟩⟩ := so_E b z o h.2
    refine ⟨⟨_, pe_ifExp p0 p1 p2, RS.ite q0 q1 q2⟩, _, pt_ite p0 p1' p2', ?_⟩
    intro Z F env σ H Q Q' s hw k
    refine q0 Z F env σ H _ _ s hw fun F1 H1 b e1 w1 s1 i1 => ?_
    cases b with
    | true => exact q1' Z F1 e1 σ H1 Q Q' i1 (ifB_t w1) fun F2 H2 v e2 q e i => k F2 H2 v e2 q (s1.trans e) i
    | false => exact q2' Z F1 e1 σ H1 Q Q' i1 (ifB_f w1) fun F2 H2 v e2 q e i => k F2 H2 v e2 q (s1.trans e) i
  | .cmp op a b, X, c, e, o, h => by
    cases e <;> first
      | cases h
      | skip
    rename_i l ops rs pos
    cases ops with
    | nil => cases h
    | cons o' ops =>
      cases ops with
      | cons _ _ => cases h
      | nil =>
        cases rs with
        | nil => cases h
        | cons r rs =>
          cases rs with
          | cons _ _ => cases h
          | nil =>
            have h : (decide (o' = cOp op) && !behindInMarks o' r && cmpE G a c l && cmpE G b c r) = true := h
            simp only [Bool.and_eq_true, decide_eq_true_eq, Bool.not_eq_true'] at h
            obtain ⟨⟨⟨rfl, hm⟩, h1⟩, h2⟩ := h
            obtain ⟨ta, p1, q1⟩ := (so_E a l o h1).1
            obtain ⟨tb, p2, q2⟩ := (so_E b r o h2).1
            have hb := cop_ok (X := X) o.units op
            rw [← o.w.hK] at hb
            exact ⟨⟨_, pe_cmpR hb p1 p2 hm, RS.binB q1 q2 (cop_s op)⟩, _, pt_cmpR hb p1 p2 hm, RT.cmpB q1 q2 (cop_s op)⟩
  | .chain o1 o2 a b d, X, c, e, o, h => by
    cases e <;> first
      | cases h
      | skip
    rename_i l ops rs pos
    rcases ops with _ | ⟨p1, _ | ⟨p2, _ | ⟨_, _⟩⟩⟩ <;> first
      | cases h
      | skip
    rcases rs with _ | ⟨r, _ | ⟨z, _ | ⟨_, _⟩⟩⟩ <;> first
      | cases h
      | skip
    have h : (decide (p1 = cOp o1) && decide (p2 = cOp o2) && !lastMarks [p1, p2] [r, z] && cmpE G a c l && cmpE G b c r && cmpE G d c z) = true := h
    simp only [Bool.and_eq_true, decide_eq_true_eq, Bool.not_eq_true'] at h
    obtain ⟨⟨⟨⟨⟨rfl, rfl⟩, hm⟩, h1⟩, h2⟩, h3⟩ := h
    obtain ⟨ta, p1, q1⟩ := (so_E a l o h1).1
    obtain ⟨tb, p2, q2⟩ := (so_E b r o h2).1
    obtain ⟨tc, p3, q3⟩ := (so_E d z o h3).1
    have hb := cop_ok (X := X) o.units o1
    have hb' := cop_ok (X := X) o.units o2
    rw [← o.w.hK] at hb hb'
    exact ⟨⟨_, pe_chain hb hb' p1 p2 p3 hm, RS.chain q1 q2 q3 (cop_s o1) (cop_s o2)⟩, _, pt_chain hb hb' p1 p2 p3 hm, RT.chainB q1 q2 q3 (cop_s o1) (cop_s o2)⟩
  | .tup as, X, c, e, o, h => by
    cases e <;> first
      | cases h
      | skip
    rename_i es k pos
    obtain ⟨t, p, q⟩ := so_L as es o h
    exact both o ⟨_, pe_tup p, RL.tup q⟩ fun _ => rfl
  | .lst as, X, c, e, o, h => by
    cases e <;> first
      | cases h
      | skip
    rename_i es pos
    obtain ⟨t, p, q⟩ := so_L as es o h
    exact both o ⟨_, pe_lst p, RL.lst q⟩ fun _ => rfl
  | .idx a i, X, c, e, o, h => by
    cases e <;> first
      | cases h
      | skip
    rename_i v s pos
    have h : (!isSlice s && cmpE G a c v && cmpE G i c s) = true := by
      cases s <;> exact h
    simp only [Bool.and_eq_true, Bool.not_eq_true'] at h
    obtain ⟨ta, p1, q1⟩ := (so_E a v o h.1.2).1
    obtain ⟨tb, p2, q2⟩ := (so_E i s o h.2).1
    have hi := ix_A (X := X)
    rw [← o.w.hK] at hi
    exact both o ⟨_, pe_ix hi p1 p2 (plainIx_of h.1.1), RS.idx q1 q2⟩ fun _ => rfl
  | .slc a lo hi, X, c, e, o, h => by
    cases e <;> first
      | cases h
      | skip
    rename_i v s pos
    cases s <;> first
      | cases h
      | skip
    rename_i l u st p2
    cases st with
    | some _ => cases h
    | none =>
      have h : (cmpE G a c v && cmpO G lo c l && cmpO G hi c u) = true := h
      simp only [Bool.and_eq_true] at h
      obtain ⟨ta, p1, q1⟩ := (so_E a v o h.1.1).1
      obtain ⟨tl, p2, q2⟩ := so_O lo l o h.1.2
      obtain ⟨th, p3, q3⟩ := so_O hi u o h.2
      have hs := sl_A (X := X)
      rw [← o.w.hK] at hs
      exact both o ⟨_, pe_slice hs p1 p2 p3, RS.slc q1 q2 q3⟩ fun _ => rfl
  | .fld a cl k, X, c, e, o, h => by
    cases e <;> first
      | cases h
      | skip
    rename_i v f pos
    have h : (decide ((G.lay.getD cl [])[k]? = some f) && (G.cn[cl]?).isSome && notSuper v && cmpE G a c v) = true := h
    simp only [Bool.and_eq_true, decide_eq_true_eq] at h
    obtain ⟨⟨⟨h1, h2⟩, h3⟩, h4⟩ := h
    obtain ⟨x, hx⟩ := Option.isSome_iff_exists.mp h2
    obtain ⟨ta, p1, q1⟩ := (so_E a v o h4).1
    obtain ⟨g1, g2, g3, g4⟩ := cls_at o hx
    have hf : (S.lay cl)[k]? = some f := by rw [o.w.lay]; exact h1
    have hp := pe_fld (pos := pos) (f := f) p1 (base_eq h3)
    rw [← o.w.hK] at hp
    exact both o ⟨_, hp, RS.fld q1 g1 (g4 k f hf) hf g3⟩ fun _ => rfl
  | .call f as, X, c, e, o, h => by
    cases e <;> first
      | cases h
      | skip
    rename_i fn args kws pos
    cases fn <;> first
      | cases h
      | skip
    · rename_i bs m apos
      cases bs <;> first
        | cases h
        | skip
      rename_i x px
      cases kws <;> first
        | cases h
        | skip
      have h : (statB G f x m && glbB c.sc x && plainN x && (apos.endLine == pos.line) && decide (args.length < 30) && !args.isEmpty && cmpAs G as c args) = true := h
      simp only [Bool.and_eq_true, decide_eq_true_eq] at h
      obtain ⟨⟨⟨⟨⟨⟨h1, h2⟩, h3⟩, h5⟩, h6⟩, h7⟩, h4⟩ := h
      obtain ⟨i, a, C, q, g1, g2, g3, g4, g5⟩ := statB_at o h1
      obtain ⟨p1, _, _⟩ := plain3 h3
      have hn := nostar_of h4
      cases args with
      | nil => cases h7
      | cons y ys =>
        obtain ⟨t, p, q⟩ := so_L as (y :: ys) o h4
        exact both o ⟨_, pe_statA g3 g5 g4 o.gd (o.gl h2) g2 p hn h6 p1 h5, RL.callF q g1⟩ fun _ => rfl
    · rename_i x p
      cases kws with
      | cons kw kws =>
        have h : (fnKB G f x args.length ((kw :: kws).map (·.arg)) && glbB c.sc x && plainN x && args.all noStar && cmpAs G as c (args ++ (kw :: kws).map (·.value))) = true := h
        simp only [Bool.and_eq_true] at h
        obtain ⟨⟨⟨⟨h1, h2⟩, h3⟩, h5⟩, h4⟩ := h
        obtain ⟨i, a, ks, g1, g2, g3, g4, g5, g6⟩ := fnKB_at o h1
        obtain ⟨p1, _, _⟩ := plain3 h3
        obtain ⟨t, u, r1, r2, r3, r4⟩ := so_LK as args (kw :: kws) o h4
        have hl : (kw :: kws).length = ks.length := by simpa using congrArg List.length g6
        rw [hl] at r2 r3
        exact both o ⟨_, pe_callKA g5 g4 o.gd (o.gl h2) g2 g3 r1 r2 (fun y hy => List.all_eq_true.mp h5 y hy) (fun e => ⟨(r4 e).1, by rw [e]; rfl⟩) g6 p1, RL.callF r3 g1⟩ fun _ => rfl
      | nil =>
        have h : (fnB G f x && glbB c.sc x && plainN x && cmpAs G as c args) = true := h
        simp only [Bool.and_eq_true] at h
        obtain ⟨⟨⟨h1, h2⟩, h3⟩, h4⟩ := h
        obtain ⟨i, a, g1, g2, g3, g4, g5⟩ := fnB_at o h1
        obtain ⟨p1, _, _⟩ := plain3 h3
        have hn := nostar_of h4
        refine both o ?_ fun _ => rfl
        cases as with
        | nil =>
          cases args with
          | cons _ _ => cases h4
          | nil => exact ⟨_, pe_callA0 g5 g4 o.gd (o.gl h2) g2 g3 p1, RL.callF RL.nil g1⟩
        | cons b bs =>
          cases args with
          | nil => cases h4
          | cons y ys =>
            obtain ⟨t, p, q⟩ := so_L (b :: bs) (y :: ys) o h4
            exact ⟨_, pe_callA g5 g4 o.gd (o.gl h2) g2 g3 p hn p1, RL.callF q g1⟩
  | .meth cl f b as, X, c, e, o, h => by
    cases e <;> first
      | cases h
      | skip
    rename_i fn args kws pos
    cases fn <;> first
      | cases h
      | skip
    rename_i v m apos
    cases kws with
    | cons kw kws =>
      have h : (methKB G cl f m (args.length + 1) ((kw :: kws).map (·.arg)) && notSuper v && (apos.endLine == pos.line) && decide (args.length + (kw :: kws).length + 1 < 30) && cmpA G b c v && args.all noStar && cmpAs G as c (args ++ (kw :: kws).map (·.value))) = true := h
      simp only [Bool.and_eq_true, decide_eq_true_eq] at h
      obtain ⟨⟨⟨⟨⟨⟨h1, h2⟩, h3⟩, h4⟩, h5⟩, h7⟩, h6⟩ := h
      obtain ⟨i, a, ks, g1, g2, g3, g4, g5, g6, g7⟩ := methKB_at o h1
      obtain ⟨to, p0, q0⟩ := so_A b v o h5
      obtain ⟨t, u, r1, r2, r3, r4⟩ := so_LK as args (kw :: kws) o h6
      have hl : (kw :: kws).length = ks.length := by simpa using congrArg List.length g7
      rw [hl] at r2 r3
      exact both o ⟨_, pe_methKA p0 g2 g3 g6 g5 o.gd r1 r2 (fun y hy => List.all_eq_true.mp h7 y hy) (fun e => ⟨(r4 e).1, by rw [e]; rfl⟩) g7 h2 h4 h3, RL.methF q0 r3 g1 g4⟩ fun _ => rfl
    | nil =>
    have h : (methB G cl f m && notSuper v && (apos.endLine == pos.line) && decide (args.length < 30) && cmpA G b c v && cmpAs G as c args) = true := h
    simp only [Bool.and_eq_true, decide_eq_true_eq] at h
    obtain ⟨⟨⟨⟨⟨h1, h2⟩, h3⟩, h4⟩, h5⟩, h6⟩ := h
    obtain ⟨i, a, g1, g2, g3, g4, g5, g6⟩ := methB_at o h1
    obtain ⟨to, p0, q0⟩ := so_A b v o h5
    have hn := nostar_of h6
    refine both o ?_ fun _ => rfl
    cases as with
    | nil =>
      cases args with
      | cons _ _ => cases h6
      | nil => exact ⟨_, pe_methA0 p0 g2 g3 g6 g5 o.gd h2 h3, RL.methF q0 RL.nil g1 g4⟩
    | cons b bs =>
      cases args with
      | nil => cases h6
      | cons y ys =>
        obtain ⟨t, p, q⟩ := so_L (b :: bs) (y :: ys) o h6
        exact ⟨_, pe_methA p0 g2 g3 g6 g5 o.gd p hn h2 h4 h3, RL.methF q0 q g1 g4⟩
  | .make cl f as, X, c, e, o, h => by
    cases e <;> first
      | cases h
      | skip
    rename_i fn args kws pos
    cases fn <;> first
      | cases h
      | skip
    rename_i x p
    cases kws <;> first
      | cases h
      | skip
    have h : (initB G cl f x && glbB c.sc x && plainN x && cmpAs G as c args) = true := h
    simp only [Bool.and_eq_true] at h
    obtain ⟨⟨⟨h1, h2⟩, h3⟩, h4⟩ := h
    obtain ⟨i, a, g1, g2, g3, g4, g5⟩ := initB_at o h1
    obtain ⟨p1, _, _⟩ := plain3 h3
    have hn := nostar_of h4
    refine both o ?_ fun _ => rfl
    cases as with
    | nil =>
      cases args with
      | cons _ _ => cases h4
      | nil => exact ⟨_, pe_makeA0 g3 g5 g4 o.gd (o.gl h2) g2 p1, RL.makeF RL.nil g1⟩
    | cons b bs =>
      cases args with
      | nil => cases h4
      | cons y ys =>
        obtain ⟨t, p, q⟩ := so_L (b :: bs) (y :: ys) o h4
        exact ⟨_, pe_makeA g3 g5 g4 o.gd (o.gl h2) g2 p hn p1, RL.makeF q g1⟩
  | .bi b as, X, c, e, o, h => by
    cases e <;> first
      | cases h
      | skip
    rename_i fn args kws pos
    cases fn <;> first
      | cases h
      | skip
    rename_i x p
    cases args <;> first
      | cases h
      | skip
    rename_i y ys
    cases kws <;> first
      | cases h
      | skip
    have h : (decide (x = bName b) && glbB c.sc x && cmpAs G as c (y :: ys)) = true := h
    simp only [Bool.and_eq_true, decide_eq_true_eq] at h
    obtain ⟨⟨rfl, h2⟩, h4⟩ := h
    obtain ⟨t, p, q⟩ := so_L as (y :: ys) o h4
    have hb := bi_ok (X := X) o.calm o.gd o.units b
    rw [← o.w.hK] at hb
    exact both o ⟨_, pe_bltA hb (o.gl h2) (o.w.bt _ (bname_mem b)) p (nostar_of h4), RL.call q (bi_s b)⟩ fun _ => rfl
  | .mi m b as, X, c, e, o, h => by
    cases e <;> first
      | cases h
      | skip
    rename_i fn args kws pos
    cases fn <;> first
      | cases h
      | skip
    rename_i v x apos
    rcases args with _ | ⟨y, _ | ⟨_, _⟩⟩ <;> first
      | exact absurd (show false = true from h) Bool.false_ne_true
      | skip
    cases kws <;> first
      | exact absurd (show false = true from h) Bool.false_ne_true
      | skip
    have h : (decide (x = mName m) && notSuper v && (apos.endLine == pos.line) && cmpA G b c v && cmpAs G as c [y]) = true := h
    simp only [Bool.and_eq_true, decide_eq_true_eq] at h
    obtain ⟨⟨⟨⟨rfl, h1⟩, h2⟩, h3⟩, h4⟩ := h
    obtain ⟨to, p0, q0⟩ := so_A b v o h3
    obtain ⟨t, p, q⟩ := so_L as [y] o h4
    have hn := nostar_of h4 y List.mem_cons_self
    have hp := pe_mi (apos := apos) (cpos := pos) o.calm m p0 p hn h1 h2
    rw [← o.w.hK] at hp
    exact both o ⟨_, hp, RS.mi q0 q⟩ fun _ => rfl
  | .isi t a, X, c, e, o, h => by
    cases e <;> first
      | cases h
      | skip
    rename_i fn args kws pos
    cases fn <;> first
      | cases h
      | skip
    rename_i x p
    rcases args with _ | ⟨y, _ | ⟨z, _ | ⟨_, _⟩⟩⟩ <;> first
      | exact absurd (show false = true from h) Bool.false_ne_true
      | skip
    rotate_left
    · cases z <;> exact absurd (show false = true from h) Bool.false_ne_true
    cases z <;> first
      | exact absurd (show false = true from h) Bool.false_ne_true
      | skip
    rename_i z pz
    cases kws <;> first
      | exact absurd (show false = true from h) Bool.false_ne_true
      | skip
    have h : (decide (x = ("isinstance" : Str)) && glbB c.sc x && glbB c.sc z && plainN z && tnName G t z && noStar y && cmpA G a c y) = true := h
    simp only [Bool.and_eq_true, decide_eq_true_eq] at h
    obtain ⟨⟨⟨⟨⟨⟨rfl, h1⟩, h2⟩, h3⟩, h4⟩, h5⟩, h6⟩ := h
    obtain ⟨te, p1, q1⟩ := so_A a y o h6
    have hp := pe_isi (p := p) (p2 := pz) (pos := pos) o (o.gl h1) (o.gl h2) h4 (plain3 h3).1 h5 p1
    rw [← o.w.hK] at hp
    exact both o ⟨_, hp, RS.isi o.w (fun j e => by subst e; exact ⟨z, of_decide_eq_true (show decide (G.cn[j]? = some z) = true from h4)⟩) q1⟩ fun _ => rfl
  | .nset a, X, c, e, o, h => by
    cases e <;> first
      | cases h
      | skip
    rename_i fn args kws pos
    cases fn <;> first
      | cases h
      | skip
    rename_i x p
    rcases args with _ | ⟨y, _ | ⟨_, _⟩⟩
    · exact absurd (show false = true from h) Bool.false_ne_true
    rotate_left
    · cases y <;> first
        | exact absurd (show false = true from h) Bool.false_ne_true
        | (rename_i f2 a2 k2 p2
           cases f2 <;> first
             | exact absurd (show false = true from h) Bool.false_ne_true
             | (rcases a2 with _ | ⟨_, _ | ⟨_, _⟩⟩ <;> first
                  | exact absurd (show false = true from h) Bool.false_ne_true
                  | (cases k2 <;> exact absurd (show false = true from h) Bool.false_ne_true)))
    cases y <;> first
      | exact absurd (show false = true from h) Bool.false_ne_true
      | skip
    rename_i f2 a2 k2 p2
    cases f2 <;> first
      | exact absurd (show false = true from h) Bool.false_ne_true
      | skip
    rename_i y py
    rcases a2 with _ | ⟨z, _ | ⟨_, _⟩⟩ <;> first
      | exact absurd (show false = true from h) Bool.false_ne_true
      | skip
    cases k2 <;> first
      | exact absurd (show false = true from h) Bool.false_ne_true
      | skip
    cases kws <;> first
      | exact absurd (show false = true from h) Bool.false_ne_true
      | skip
    have h : (decide (x = ("len" : Str)) && decide (y = ("set" : Str)) && glbB c.sc x && glbB c.sc y && noStar z && cmpA G a c z) = true := h
    simp only [Bool.and_eq_true, decide_eq_true_eq] at h
    obtain ⟨⟨⟨⟨⟨rfl, rfl⟩, h1⟩, h2⟩, h5⟩, h6⟩ := h
    obtain ⟨te, p1, q1⟩ := so_A a z o h6
    have hp := pe_nset (p := p) (p2 := py) (q := p2) (pos := pos) o.calm (o.gl h1) (o.w.bt _ (by decide)) (o.gl h2) (o.w.bt _ (by decide)) p1 h5
    rw [← o.w.hK] at hp
    exact both o ⟨_, hp, RS.nset q1⟩ fun _ => rfl
  | .lrng a, X, c, e, o, h => by
    cases e <;> first
      | cases h
      | skip
    rename_i fn args kws pos
    cases fn <;> first
      | cases h
      | skip
    rename_i x p
    rcases args with _ | ⟨y, _ | ⟨_, _⟩⟩
    · exact absurd (show false = true from h) Bool.false_ne_true
    rotate_left
    · cases y <;> first
        | exact absurd (show false = true from h) Bool.false_ne_true
        | (rename_i f2 a2 k2 p2
           cases f2 <;> first
             | exact absurd (show false = true from h) Bool.false_ne_true
             | (rcases a2 with _ | ⟨_, _ | ⟨_, _⟩⟩ <;> first
                  | exact absurd (show false = true from h) Bool.false_ne_true
                  | (cases k2 <;> exact absurd (show false = true from h) Bool.false_ne_true)))
    cases y <;> first
      | exact absurd (show false = true from h) Bool.false_ne_true
      | skip
    rename_i f2 a2 k2 p2
    cases f2 <;> first
      | exact absurd (show false = true from h) Bool.false_ne_true
      | skip
    rename_i y py
    rcases a2 with _ | ⟨z, _ | ⟨_, _⟩⟩ <;> first
      | exact absurd (show false = true from h) Bool.false_ne_true
      | skip
    cases k2 <;> first
      | exact absurd (show false = true from h) Bool.false_ne_true
      | skip
    cases kws <;> first
      | exact absurd (show false = true from h) Bool.false_ne_true
      | skip
    have h : (decide (x = ("list" : Str)) && decide (y = ("range" : Str)) && glbB c.sc x && glbB c.sc y && noStar z && cmpA G a c z) = true := h
    simp only [Bool.and_eq_true, decide_eq_true_eq] at h
    obtain ⟨⟨⟨⟨⟨rfl, rfl⟩, h1⟩, h2⟩, h5⟩, h6⟩ := h
    obtain ⟨te, p1, q1⟩ := so_A a z o h6
    exact both o ⟨_, pe_listRg (p := p) (pos := pos) o.calm (o.gl h1) (o.w.bt _ (by decide)) (prg_1 (p := py) (pos := p2) (o.gl h2) (o.w.bt _ (by decide)) p1 (star_cons h5)) (star_cons rfl), RS.lrng q1⟩ fun _ => rfl
  | .dun op cl f a b, X, c, e, o, h => by
    cases e <;> first
      | cases h
      | skip
    rename_i l op' r pos
    have h : (decide (op' = bOp op) && dunB G op cl f && cmpA G a c l && cmpA G b c r) = true := h
    simp only [Bool.and_eq_true, decide_eq_true_eq] at h
    obtain ⟨⟨⟨rfl, h1⟩, h2⟩, h3⟩ := h
    obtain ⟨i, ad, g1, g2, g3, g4⟩ := dunB_at o h1
    obtain ⟨ta, p1, q1⟩ := so_A a l o h2
    obtain ⟨tb, p2, q2⟩ := so_A b r o h3
    exact both o ⟨_, pe_dun p1 p2 g2 g4 g3 o.gd, RL.dunF (RL.cons q1 (RL.cons q2 RL.nil)) g1⟩ fun _ => rfl
  | .makeS cl f a, X, c, e, o, h => by
    cases e <;> first
      | cases h
      | skip
    rename_i fn args kws pos
    cases fn <;> first
      | cases h
      | skip
    rename_i x p
    rcases args with _ | ⟨y, _ | ⟨_, _⟩⟩
    · exact absurd (show false = true from h) Bool.false_ne_true
    rotate_left
    · cases y <;> exact absurd (show false = true from h) Bool.false_ne_true
    cases y <;> first
      | exact absurd (show false = true from h) Bool.false_ne_true
      | skip
    rename_i y spos
    cases kws <;> first
      | exact absurd (show false = true from h) Bool.false_ne_true
      | skip
    have h : (initSB G cl f x && glbB c.sc x && plainN x && cmpA G a c y) = true := h
    simp only [Bool.and_eq_true] at h
    obtain ⟨⟨⟨h1, h2⟩, h3⟩, h4⟩ := h
    obtain ⟨i, ad, g1, g2, g3, g4, g5, g6⟩ := initSB_at o h1
    obtain ⟨p1, _, _⟩ := plain3 h3
    obtain ⟨te, r1, q1⟩ := so_A a y o h4
    have hp := pe_makeS (p := p) (pos := pos) (spos := spos) g3 g6 g4 o.gd (o.gl h2) g2 r1 p1
    rw [← o.w.hK] at hp
    exact both o ⟨_, hp, RS.makeS q1 g1 g5⟩ fun _ => rfl
  | .pop i a, X, c, e, o, h => by
    cases e <;> first
      | cases h
      | skip
    rename_i fn args kws pos
    cases fn <;> first
      | cases h
      | skip
    rename_i b m apos
    cases b <;> first
      | exact absurd (show false = true from h) Bool.false_ne_true
      | skip
    rename_i x px
    rcases args with _ | ⟨y, _ | ⟨_, _⟩⟩ <;> first
      | exact absurd (show false = true from h) Bool.false_ne_true
      | skip
    cases kws <;> first
      | exact absurd (show false = true from h) Bool.false_ne_true
      | skip
    have h : (decide (m = ("pop" : Str)) && decide (c.N[i]? = some x) && visB c.sc x && plainN x && (apos.endLine == pos.line) && noStar y && cmpA G a c y) = true := h
    simp only [Bool.and_eq_true, decide_eq_true_eq] at h
    obtain ⟨⟨⟨⟨⟨⟨rfl, h1⟩, h2⟩, h3⟩, h4⟩, h5⟩, h6⟩ := h
    obtain ⟨t, p1, q1⟩ := so_A a y o h6
    obtain ⟨g1, g2, _⟩ := plain3 h3
    have hs : starEach [y] X.env = (false, eval y X.env) :: starEach [] X.env := star_cons h5
    have hp := pe_bm (apos := apos) (cpos := pos) PySem.F.plainAttrs_list PySem.F.slot_list_pop PySem.F.type_list_pop mt_popAt (pe_var (pos := px) (by rw [o.N]; exact h1) (o.vis h2) g1 g2) (pa_cons p1 pa_nil hs) rfl (by rw [hs]; rfl) h4 hs rfl
    rw [← o.w.hK] at hp
    exact both o ⟨_, hp, RS.pop q1⟩ fun _ => rfl
  | .rev a, X, c, e, o, h => by
    cases e <;> first
      | cases h
      | skip
    rename_i v s pos
    cases s <;> first
      | cases h
      | skip
    rename_i l u st p2
    cases l <;> first
      | exact absurd (show false = true from h) Bool.false_ne_true
      | skip
    cases u <;> first
      | exact absurd (show false = true from h) Bool.false_ne_true
      | skip
    cases st <;> first
      | exact absurd (show false = true from h) Bool.false_ne_true
      | skip
    rename_i z
    cases z <;> first
      | exact absurd (show false = true from h) Bool.false_ne_true
      | skip
    rename_i uo k p3
    cases uo <;> first
      | exact absurd (show false = true from h) Bool.false_ne_true
      | skip
    cases k <;> first
      | exact absurd (show false = true from h) Bool.false_ne_true
      | skip
    rename_i k kn p4
    cases k <;> first
      | exact absurd (show false = true from h) Bool.false_ne_true
      | skip
    rename_i n
    by_cases hn : n = 1
    · subst hn
      obtain ⟨ta, p1, q1⟩ := so_A a v o h
      have hp := pe_revA (X := X) (k := kn) (p1 := p4) (p2 := p3) (p3 := p2) (pos := pos) p1
      rw [← o.w.hK] at hp
      exact both o ⟨_, hp, RS.rev q1⟩ fun _ => rfl
    · exfalso
      unfold cmpE at h
      split at h
      · rename_i q
        cases q
        exact hn rfl
      · cases h
  | .dnew, X, c, e, o, h => by
    cases e <;> first
      | cases h
      | skip
    rename_i ks vs pos
    cases ks <;> first
      | exact absurd (show false = true from h) Bool.false_ne_true
      | skip
    cases vs <;> first
      | exact absurd (show false = true from h) Bool.false_ne_true
      | skip
    exact both o ⟨_, pe_dnewK, RS.dnew⟩ fun _ => rfl
  | .cget g a j, X, c, e, o, h => by
    cases e <;> first
      | cases h
      | skip
    rename_i fn args kws pos
    cases fn <;> first
      | cases h
      | skip
    rename_i b m apos
    cases b <;> first
      | exact absurd (show false = true from h) Bool.false_ne_true
      | skip
    rename_i x px
    rcases args with _ | ⟨y, _ | ⟨z, _ | ⟨_, _⟩⟩⟩ <;> first
      | exact absurd (show false = true from h) Bool.false_ne_true
      | skip
    rotate_left
    · cases z <;> first
        | exact absurd (show false = true from h) Bool.false_ne_true
        | (rename_i k _ _
           cases k <;> exact absurd (show false = true from h) Bool.false_ne_true)
    cases z <;> first
      | exact absurd (show false = true from h) Bool.false_ne_true
      | skip
    rename_i k kn kp
    cases k <;> first
      | exact absurd (show false = true from h) Bool.false_ne_true
      | skip
    rename_i i
    cases kws <;> first
      | exact absurd (show false = true from h) Bool.false_ne_true
      | skip
    have h : (decide (m = ("get" : Str)) && decide (((G.tb[g]?).getD ("", [])).1 = x) && (G.tb[g]?).isSome && decide (i = j) && glbB c.sc x && plainN x && (apos.endLine == pos.line) && noStar y && cmpA G a c y) = true := h
    simp only [Bool.and_eq_true, decide_eq_true_eq] at h
    obtain ⟨⟨⟨⟨⟨⟨⟨⟨rfl, h1⟩, h2⟩, h3⟩, h4⟩, h5⟩, h6⟩, h7⟩, h8⟩ := h
    obtain ⟨⟨x', kvs⟩, hg⟩ := Option.isSome_iff_exists.mp h2
    rw [hg] at h1
    cases (show x' = x from h1)
    obtain ⟨ad, es, n, g1, g2, g3⟩ := o.w.tbs g _ kvs hg
    obtain ⟨ta, p1, q1⟩ := so_A a y o h8
    obtain ⟨d1, d2, d3⟩ := plain3 h5
    have hp := pe_kget (X := X) (apos := apos) (cpos := pos) g2 (pe_glob (v := V.ref ad) (pos := px) (o.gl h4) g1 rfl d1) p1 (pe_int (i := i) (j := kn) (pos := kp)) rfl h6 h7 rfl
    rw [← o.w.hK] at hp
    have r := RS.cget (d := ad) q1 (kvs := kvs) (by rw [o.w.hK]; exact g3)
    have e2 : kvs = ((G.tb[g]?).getD ("", [])).2 := by rw [hg]; rfl
    rw [e2] at r
    exact both o ⟨_, hp, r⟩ fun _ => rfl
  | .lrng3 as, X, c, e, o, h => by
    cases e <;> first
      | cases h
      | skip
    rename_i fn args kws pos
    cases fn <;> first
      | cases h
      | skip
    rename_i x p
    rcases args with _ | ⟨z, zs⟩ <;> first
      | exact absurd (show false = true from h) Bool.false_ne_true
      | skip
    cases z <;> first
      | exact absurd (show false = true from h) Bool.false_ne_true
      | skip
    rename_i fn2 args2 kws2 pos2
    cases fn2 <;> first
      | exact absurd (show false = true from h) Bool.false_ne_true
      | skip
    rename_i y p2
    cases args2 <;> first
      | exact absurd (show false = true from h) Bool.false_ne_true
      | skip
    rename_i u us
    cases kws2 <;> first
      | exact absurd (show false = true from h) Bool.false_ne_true
      | skip
    cases zs <;> first
      | exact absurd (show false = true from h) Bool.false_ne_true
      | skip
    cases kws <;> first
      | exact absurd (show false = true from h) Bool.false_ne_true
      | skip
    have h : (decide (x = ("list" : Str)) && decide (y = ("range" : Str)) && glbB c.sc x && glbB c.sc y && cmpAs G as c (u :: us)) = true := h
    simp only [Bool.and_eq_true, decide_eq_true_eq] at h
    obtain ⟨⟨⟨⟨rfl, rfl⟩, h1⟩, h2⟩, h4⟩ := h
    obtain ⟨t, p1, q1⟩ := so_L as (u :: us) o h4
    exact both o ⟨_, pe_listRg3 (p := p) (p2 := p2) (pos := pos) (pos2 := pos2) o.calm (o.gl h1) (o.w.bt _ (by decide)) (o.gl h2) (o.w.bt _ (by decide)) p1 (List.all_eq_true.mpr (nostar_of h4)), RL.lrng3 q1⟩ fun _ => rfl
  | .lenO cl f a, X, c, e, o, h => by
    cases e <;> first
      | cases h
      | skip
    rename_i fn args kws pos
    cases fn <;> first
      | cases h
      | skip
    rename_i x p
    rcases args with _ | ⟨y, _ | ⟨_, _⟩⟩ <;> first
      | exact absurd (show false = true from h) Bool.false_ne_true
      | skip
    cases kws <;> first
      | exact absurd (show false = true from h) Bool.false_ne_true
      | skip
    have h : (decide (x = ("len" : Str)) && lenB G cl f && glbB c.sc x && noStar y && cmpA G a c y) = true := h
    simp only [Bool.and_eq_true, decide_eq_true_eq] at h
    obtain ⟨⟨⟨⟨rfl, h1⟩, h2⟩, h3⟩, h4⟩ := h
    obtain ⟨i, ad, g1, g2, g3, g4⟩ := lenB_at o h1
    obtain ⟨te, p1, q1⟩ := so_A a y o h4
    exact both o ⟨_, pe_lenO (p := p) (pos := pos) g2 g4 g3 o.gd (o.gl h2) (o.w.bt _ (by decide)) p1 h3, RS.lenO q1 g1⟩ fun _ => rfl
  | .strO cl f a, X, c, e, o, h => by
    cases e <;> first
      | cases h
      | skip
    · rename_i fn args kws pos
      cases fn <;> first
        | cases h
        | skip
      rename_i x p
      rcases args with _ | ⟨y, _ | ⟨_, _⟩⟩ <;> first
        | exact absurd (show false = true from h) Bool.false_ne_true
        | skip
      cases kws <;> first
        | exact absurd (show false = true from h) Bool.false_ne_true
        | skip
      have h : (decide (x = ("str" : Str)) && strB G cl f && glbB c.sc x && noStar y && cmpA G a c y) = true := h
      simp only [Bool.and_eq_true, decide_eq_true_eq] at h
      obtain ⟨⟨⟨⟨rfl, h1⟩, h2⟩, h3⟩, h4⟩ := h
      obtain ⟨i, ad, g1, g2, g3, g4⟩ := strB_at o h1
      obtain ⟨te, p1, q1⟩ := so_A a y o h4
      exact both o ⟨_, pe_strO (p := p) (pos := pos) g2.m g4 g3 o.gd (o.gl h2) (o.w.bt _ (by decide)) p1 h3, RS.strO q1 g1⟩ fun _ => rfl
    · rename_i vs pos
      rcases vs with _ | ⟨v, _ | ⟨_, _⟩⟩
      · exact absurd (show false = true from h) Bool.false_ne_true
      rotate_left
      · cases v <;> first
          | exact absurd (show false = true from h) Bool.false_ne_true
          | (rename_i y k sp p
             cases sp <;> exact absurd (show false = true from h) Bool.false_ne_true)
      cases v <;> first
        | exact absurd (show false = true from h) Bool.false_ne_true
        | skip
      rename_i y k sp p
      cases sp <;> first
        | exact absurd (show false = true from h) Bool.false_ne_true
        | skip
      have h : (decide (k = -1) && strB G cl f && cmpA G a c y) = true := h
      simp only [Bool.and_eq_true, decide_eq_true_eq] at h
      obtain ⟨⟨rfl, h1⟩, h4⟩ := h
      obtain ⟨i, ad, g1, g2, g3, g4⟩ := strB_at o h1
      obtain ⟨te, p1, q1⟩ := so_A a y o h4
      exact both o ⟨_, pe_joined1 (pe_fmtO g2 g4 g3 o.gd p1), RS.strO q1 g1⟩ fun _ => rfl
  | .fst es, X, c, e, o, h => by
    cases e <;> first
      | cases h
      | skip
    rename_i vs pos
    replace h : (fstB vs && cmpJ G es c vs) = true := h
    rw [Bool.and_eq_true] at h
    obtain ⟨h0, h⟩ := h
    rcases vs with _ | ⟨x, _ | ⟨y, r⟩⟩
    · exact absurd (show false = true from h0) Bool.false_ne_true
    · cases x <;> first
        | exact absurd (show false = true from h0) Bool.false_ne_true
        | skip
      rename_i y k sp p
      cases sp <;> first
        | (rcases es with _ | ⟨e1, es⟩ <;> exact absurd (show false = true from h) Bool.false_ne_true)
        | skip
      rcases es with _ | ⟨e1, _ | ⟨e2, es⟩⟩
      · exact absurd (show false = true from h) Bool.false_ne_true
      · have h : (decide (k = -1) && cmpE G e1 c y && true) = true := h
        simp only [Bool.and_eq_true, decide_eq_true_eq, and_true] at h
        obtain ⟨rfl, h1⟩ := h
        obtain ⟨t, p1, q1⟩ := (so_E e1 y o h1).1
        exact both o ⟨_, pe_joined1 (pe_fmt p1), RS.fmt1 q1⟩ fun _ => rfl
      · have h : (decide (k = -1) && cmpE G e1 c y && false) = true := h
        simp at h
    · obtain ⟨ts, p1, q1⟩ := so_J es (x :: y :: r) o h
      exact both o ⟨_, pe_joined p1, RS.fst q1⟩ fun _ => rfl
  | .makeV cl f as, X, c, e, o, h => by
    cases e <;> first
      | cases h
      | skip
    rename_i fn args kws pos
    cases fn <;> first
      | cases h
      | skip
    rename_i x p
    cases args <;> first
      | cases h
      | skip
    rename_i y ys
    cases kws <;> first
      | cases h
      | skip
    have h : (initSB G cl f x && glbB c.sc x && plainN x && cmpAs G as c (y :: ys)) = true := h
    simp only [Bool.and_eq_true] at h
    obtain ⟨⟨⟨h1, h2⟩, h3⟩, h4⟩ := h
    obtain ⟨i, ad, g1, g2, g3, g4, g5, g6⟩ := initSB_at o h1
    obtain ⟨p1, _, _⟩ := plain3 h3
    have hn := nostar_of h4
    obtain ⟨t, p, q⟩ := so_L as (y :: ys) o h4
    exact both o ⟨_, pe_makeA g3 g6 g4 o.gd (o.gl h2) g2 p hn p1, RL.makeV q g1 g5⟩ fun _ => rfl
  | .lc elt tg it ifs own, X, c, e, o, h => by
    cases e <;> first
      | cases h
      | skip
    rename_i x gs scope pos
    rcases gs with _ | ⟨⟨t, i, fs, as⟩, _ | ⟨_, _⟩⟩ <;> first
      | exact absurd (show false = true from h) Bool.false_ne_true
      | skip
    have h : (decide (as = 0) && blkC c.N c.sc scope (ownP c own) && cmpI G it c t i && cmpT (blkS c scope) tg t && cmpIf G ifs (blkS c scope) fs && cmpA G elt (blkS c scope) x && (tgSl tg).all own.contains) = true := h
    simp only [Bool.and_eq_true, decide_eq_true_eq] at h
    obtain ⟨⟨⟨⟨⟨⟨rfl, h1⟩, h2⟩, h3⟩, h4⟩, h5⟩, h6⟩ := h
    obtain ⟨ti, p1, q1⟩ := so_I it t i o h2
    have hown : (ownP c own).map (·.2) = own := by simp [ownP, List.map_map]; exact List.map_id _
    have bk : BlkOk X.N X.env.scope scope (ownP c own) := by rw [o.N, o.sc]; exact blkOk_by h1
    have hb := fun (s : Shared) (H : Hp) (C : Addr) (cl : List (Str × Addr)) (fp : List Addr) => o.blk (scope := scope) s H C cl fp
    have hl := pe_lc (pos := pos) o.calm o.nd p1 bk (fun s H C cl fp => (so_T (hb s H C cl fp) tg t h3).can) (fun s H C cl fp => (so_If ifs fs (hb s H C cl fp) h4).can) (fun s H C cl fp => (so_A elt x (hb s H C cl fp) h5).can) (set_of (cmpI_set h2) X.env)
    rw [hown] at hl
    exact both o ⟨_, hl, RS.lc q1 canG_s canT_s canR_s fun i hi => by
      have := List.all_eq_true.mp h6 i hi
      simpa using this⟩ fun _ => rfl
theorem so_And {S : Sg} {G : Gt} : ∀ (es : List E) {X : Cx} {c : Cs} (vs : List Expr), XOk X S G c → cmpEs G es c vs = true → ∀ pos, DR X S (.BoolOp .And vs pos) (wpAnd G es).1 ∧ DW X S (.BoolOp .And vs pos) (wpAnd G es).2
  | [], X, c, vs, o, h, pos => ⟨⟨fun _ _ _ => False, ⟨fun _ _ _ _ _ _ z => z.elim⟩, fun _ _ _ _ _ _ _ _ z _ => z⟩, fun _ _ _ => False, ⟨fun _ _ _ _ _ _ _ z => z.elim⟩, fun _ _ _ _ _ _ _ _ z _ => z⟩
  | [e], X, c, vs, o, h, pos => by
    cases vs with
    | nil => cases h
    | cons v vs =>
      have h : (cmpE G e c v && cmpEs G [] c vs) = true := h
      simp only [Bool.and_eq_true] at h
      cases vs with
      | cons _ _ => exact absurd h.2 (by simp [cmpEs])
      | nil =>
        obtain ⟨⟨t, p, q⟩, ⟨t', p', q'⟩⟩ := so_E e v o h.1
        exact ⟨⟨_, pe_one p, q⟩, _, pw_and1 p', q'⟩
  | e :: e2 :: es, X, c, vs, o, h, pos => by
    cases vs with
    | nil => cases h
    | cons v vs =>
      have h : (cmpE G e c v && cmpEs G (e2 :: es) c vs) = true := h
      simp only [Bool.and_eq_true] at h
      cases vs with
      | nil => exact absurd h.2 (by simp [cmpEs])
      | cons v2 vs =>
        obtain ⟨⟨t, p, q⟩, ⟨t', p', q'⟩⟩ := so_E e v o h.1
        obtain ⟨⟨u, r, w⟩, ⟨u', r', w'⟩⟩ := so_And (e2 :: es) (v2 :: vs) o h.2 pos
        exact ⟨⟨_, pe_and p r, RS.andV q w⟩, _, pw_and p' r', RT.and q' w'⟩
theorem so_Or {S : Sg} {G : Gt} : ∀ (es : List E) {X : Cx} {c : Cs} (vs : List Expr), XOk X S G c → cmpEs G es c vs = true → ∀ pos, DR X S (.BoolOp .Or vs pos) (wpOr G es).1 ∧ DW X S (.BoolOp .Or vs pos) (wpOr G es).2
  | [], X, c, vs, o, h, pos => ⟨⟨fun _ _ _ => False, ⟨fun _ _ _ _ _ _ z => z.elim⟩, fun _ _ _ _ _ _ _ _ z _ => z⟩, fun _ _ _ => False, ⟨fun _ _ _ _ _ _ _ z => z.elim⟩, fun _ _ _ _ _ _ _ _ z _ => z⟩
  | [e], X, c, vs, o, h, pos => by
    cases vs with
    | nil => cases h
    | cons v vs =>
      have h : (cmpE G e c v && cmpEs G [] c vs) = true := h
      simp only [Bool.and_eq_true] at h
      cases vs with
      | cons _ _ => exact absurd h.2 (by simp [cmpEs])
      | nil =>
        obtain ⟨⟨t, p, q⟩, ⟨t', p', q'⟩⟩ := so_E e v o h.1
        exact ⟨⟨_, pe_one p, q⟩, _, pw_or1 p', q'⟩
  | e :: e2 :: es, X, c, vs, o, h, pos => by
    cases vs with
    | nil => cases h
    | cons v vs =>
      have h : (cmpE G e c v && cmpEs G (e2 :: es) c vs) = true := h
      simp only [Bool.and_eq_true] at h
      cases vs with
      | nil => exact absurd h.2 (by simp [cmpEs])
      | cons v2 vs =>
        obtain ⟨⟨t, p, q⟩, ⟨t', p', q'⟩⟩ := so_E e v o h.1
        obtain ⟨⟨u, r, w⟩, ⟨u', r', w'⟩⟩ := so_Or (e2 :: es) (v2 :: vs) o h.2 pos
        exact ⟨⟨_, pe_or p r, RS.orV q w⟩, _, pw_or p' r', RT.or q' w'⟩
theorem so_J {S : Sg} {G : Gt} : ∀ (es : List E) {X : Cx} {c : Cs} (vs : List Expr), XOk X S G c → cmpJ G es c vs = true → ∃ ts, PJ X vs ts ∧ RJ S ts (wpJ G es)
  | [], X, c, vs, o, h => by
    cases vs with
    | cons _ _ => cases h
    | nil => exact ⟨[], .nil, RJ.nil⟩
  | e :: es, X, c, vs, o, h => by
    cases vs with
    | nil => cases h
    | cons v vs =>
      cases v <;> first
        | exact absurd (show false = true from h) Bool.false_ne_true
        | skip
      · rename_i y k sp p
        cases sp <;> first
          | exact absurd (show false = true from h) Bool.false_ne_true
          | skip
        have h : (decide (k = -1) && cmpE G e c y && cmpJ G es c vs) = true := h
        simp only [Bool.and_eq_true, decide_eq_true_eq] at h
        obtain ⟨⟨rfl, h1⟩, h2⟩ := h
        obtain ⟨t, p1, q1⟩ := (so_E e y o h1).1
        obtain ⟨ts, r1, r2⟩ := so_J es vs o h2
        exact ⟨_, .cons (pe_fmt p1) r1, RJ.fmt q1 r2⟩
      · rename_i k n p
        have h : (isTxt e && cmpE G e c (.Constant k n p) && cmpJ G es c vs) = true := h
        simp only [Bool.and_eq_true] at h
        obtain ⟨⟨h0, h1⟩, h2⟩ := h
        obtain ⟨t, p1, q1⟩ := (so_E e (.Constant k n p) o h1).1
        obtain ⟨ts, r1, r2⟩ := so_J es vs o h2
        exact ⟨_, .cons p1 r1, RJ.txt q1 r2 (lit_txt h0)⟩
theorem so_O {S : Sg} {G : Gt} : ∀ (es : List E) {X : Cx} {c : Cs} (v : Option Expr), XOk X S G c → cmpO G es c v = true → DO X S v (wpO G es)
  | [], X, c, v, o, h => by
    cases v with
    | some _ => cases h
    | none => exact ⟨_, po_none, RO.none_⟩
  | [e], X, c, v, o, h => by
    cases v with
    | none => cases h
    | some v =>
      have h : (([] : List E).isEmpty && cmpE G e c v) = true := h
      simp only [Bool.and_eq_true] at h
      obtain ⟨t, p, q⟩ := (so_E e v o h.2).1
      exact ⟨_, po_some p, RO.some_ q⟩
  | e :: e2 :: es, X, c, v, o, h => by
    cases v with
    | none => cases h
    | some v => exact absurd h (by simp [cmpO])
theorem so_A {S : Sg} {G : Gt} : ∀ (a : A) {X : Cx} {c : Cs} (e : Expr), XOk X S G c → cmpA G a c e = true → DR X S e (wpA G a)
  | .v e, X, c, v, o, h => by
    obtain ⟨t, p, q⟩ := (so_E e v o h).1
    exact ⟨t, p, RS.froz q⟩
  | .p e, X, c, v, o, h => (so_E e v o h).1
theorem so_L {S : Sg} {G : Gt} : ∀ (as : List A) {X : Cx} {c : Cs} (es : List Expr), XOk X S G c → cmpAs G as c es = true → DL X S es (wpL G as)
  | [], X, c, es, o, h => by
    cases es with
    | cons _ _ => cases h
    | nil => exact ⟨_, pa_nil, RL.nil⟩
  | a :: as, X, c, es, o, h => by
    cases es with
    | nil => cases h
    | cons e es =>
      have h : (noStar e && cmpA G a c e && cmpAs G as c es) = true := h
      simp only [Bool.and_eq_true] at h
      obtain ⟨t, p, q⟩ := so_A a e o h.1.2
      obtain ⟨u, r, w⟩ := so_L as es o h.2
      exact ⟨_, pa_cons p r (star_cons h.1.1), RL.cons q w⟩
theorem so_LK {S : Sg} {G : Gt} : ∀ (as : List A) {X : Cx} {c : Cs} (es : List Expr) (kws : List Keyword), XOk X S G c → cmpAs G as c (es ++ kws.map (·.value)) = true →
    ∃ t u, PA X es (lenA es.length t) ∧ PK X kws (lenA kws.length u) ∧ RL S (tApp es.length kws.length t u) (wpL G as) ∧ (es = [] → t = tNil ∧ RL S u (wpL G as))
  | [], X, c, es, kws, o, h => by
    cases es with
    | cons _ _ => cases h
    | nil =>
      cases kws with
      | cons _ _ => cases h
      | nil => exact ⟨tNil, tNil, pa_lnil, pk_lnil, RL.app0 RL.nil, fun _ => ⟨rfl, RL.nil⟩⟩
  | a :: as, X, c, es, kws, o, h => by
    cases es with
    | nil =>
      cases kws with
      | nil => cases h
      | cons kw kws =>
        obtain ⟨nm, e, kp⟩ := kw
        have h : (noStar e && cmpA G a c e && cmpAs G as c ([] ++ kws.map (·.value))) = true := h
        simp only [Bool.and_eq_true] at h
        obtain ⟨te, p, q⟩ := so_A a e o h.1.2
        obtain ⟨t, u, r1, r2, r3, r4⟩ := so_LK as [] kws o h.2
        obtain ⟨rfl, r5⟩ := r4 rfl
        have r6 := RL.cons q r5
        exact ⟨tNil, tCons te u, pa_lnil, pk_lcons p r2, RL.app0 r6, fun _ => ⟨rfl, r6⟩⟩
    | cons e es =>
      have h : (noStar e && cmpA G a c e && cmpAs G as c (es ++ kws.map (·.value))) = true := h
      simp only [Bool.and_eq_true] at h
      obtain ⟨te, p, q⟩ := so_A a e o h.1.2
      obtain ⟨t, u, r1, r2, r3, r4⟩ := so_LK as es kws o h.2
      refine ⟨tCons te t, u, pa_lcons p r1 h.1.1, r2, ?_, fun z => by cases z⟩
      show RL S (tApp (es.length + 1) kws.length (tCons te t) u) (wpL G (a :: as))
      rw [tApp_cons]
      exact RL.cons q r3
theorem so_If {S : Sg} {G : Gt} : ∀ (es : List E) {X : Cx} {c : Cs} (vs : List Expr), XOk X S G c → cmpIf G es c vs = true → DFs X S vs (wpIfs G es)
  | [], X, c, vs, o, h => by
    cases vs with
    | cons _ _ => cases h
    | nil => exact ⟨_, pts_nil, RO.tests_nil⟩
  | [e], X, c, vs, o, h => by
    rcases vs with _ | ⟨v, _ | ⟨_, _⟩⟩ <;> first
      | cases h
      | skip
    have h : (([] : List E).isEmpty && cmpE G e c v) = true := h
    simp only [Bool.and_eq_true] at h
    obtain ⟨t, p, q⟩ := (so_E e v o h.2).2
    exact ⟨_, pts_one p, q⟩
  | e :: e2 :: es, X, c, vs, o, h => by
    rcases vs with _ | ⟨v, _ | ⟨_, _⟩⟩ <;> first
      | cases h
      | exact absurd h (by simp [cmpIf])
theorem so_I {S : Sg} {G : Gt} : ∀ (it : Wk) {X : Cx} {c : Cs} (t e : Expr), XOk X S G c → cmpI G it c t e = true → DI X S t e (wpI G it)
  | .it a, X, c, t, e, o, h => by
    have h : (notSet e && cmpA G a c e) = true := h
    simp only [Bool.and_eq_true] at h
    obtain ⟨te, p, q⟩ := so_A a e o h.2
    have hp := pi_any (tg := t) p
    rw [← o.w.hK] at hp
    exact ⟨_, hp, RI.any q⟩
  | .rng a, X, c, t, e, o, h => by
    cases e <;> first
      | cases h
      | skip
    rename_i fn args kws pos
    cases fn <;> first
      | cases h
      | skip
    rename_i x p
    rcases args with _ | ⟨y, _ | ⟨_, _⟩⟩ <;> first
      | exact absurd (show false = true from h) Bool.false_ne_true
      | skip
    cases kws <;> first
      | exact absurd (show false = true from h) Bool.false_ne_true
      | skip
    have h : (decide (x = ("range" : Str)) && glbB c.sc x && noStar y && cmpA G a c y) = true := h
    simp only [Bool.and_eq_true, decide_eq_true_eq] at h
    obtain ⟨⟨⟨rfl, h1⟩, h2⟩, h3⟩ := h
    obtain ⟨te, p1, q1⟩ := so_A a y o h3
    exact ⟨_, pi_range1 (o.gl h1) (o.w.bt _ (by decide)) (pa_cons p1 pa_nil (star_cons h2)) (star_cons h2), RI.rng1 (RL.cons q1 RL.nil)⟩
  | .rng2 a b, X, c, t, e, o, h => by
    cases e <;> first
      | cases h
      | skip
    rename_i fn args kws pos
    cases fn <;> first
      | cases h
      | skip
    rename_i x p
    rcases args with _ | ⟨y, _ | ⟨z, _ | ⟨_, _⟩⟩⟩ <;> first
      | exact absurd (show false = true from h) Bool.false_ne_true
      | skip
    cases kws <;> first
      | exact absurd (show false = true from h) Bool.false_ne_true
      | skip
    have h : (decide (x = ("range" : Str)) && glbB c.sc x && noStar y && noStar z && cmpA G a c y && cmpA G b c z) = true := h
    simp only [Bool.and_eq_true, decide_eq_true_eq] at h
    obtain ⟨⟨⟨⟨⟨rfl, h1⟩, h2⟩, h2'⟩, h3⟩, h4⟩ := h
    obtain ⟨te, p1, q1⟩ := so_A a y o h3
    obtain ⟨tf, p2, q2⟩ := so_A b z o h4
    have e2 : starEach [z] X.env = [(false, eval z X.env)] := star_cons h2'
    have e1 : starEach [y, z] X.env = [(false, eval y X.env), (false, eval z X.env)] := by rw [star_cons h2, e2]
    exact ⟨_, pi_range2 (o.gl h1) (o.w.bt _ (by decide)) (pa_cons p1 (pa_cons p2 pa_nil (star_cons h2')) (star_cons h2)) e1 e2, RI.rng2 (RL.cons q1 (RL.cons q2 RL.nil))⟩
  | .enum a, X, c, t, e, o, h => by
    cases t <;> first
      | cases h
      | skip
    cases e <;> first
      | cases h
      | skip
    rename_i fn args kws pos
    cases fn <;> first
      | cases h
      | skip
    rename_i x p
    rcases args with _ | ⟨y, _ | ⟨_, _⟩⟩ <;> first
      | exact absurd (show false = true from h) Bool.false_ne_true
      | skip
    cases kws <;> first
      | exact absurd (show false = true from h) Bool.false_ne_true
      | skip
    have h : (decide (x = ("enumerate" : Str)) && glbB c.sc x && noStar y && cmpA G a c y) = true := h
    simp only [Bool.and_eq_true, decide_eq_true_eq] at h
    obtain ⟨⟨⟨rfl, h1⟩, h2⟩, h3⟩ := h
    obtain ⟨te, p1, q1⟩ := so_A a y o h3
    have hp := fun (elts : List Expr) (kk : Nat) (tp : Pos) => pi_enumA (p := p) (pos := pos) (elts := elts) (kk := kk) (tpos := tp) (o.gl h1) (o.w.bt _ (by decide)) (pa_cons p1 pa_nil (star_cons h2)) h2
    rw [← o.w.hK] at hp
    exact ⟨_, hp _ _ _, RI.enum q1⟩
  | .zip a b, X, c, t, e, o, h => by
    cases t <;> first
      | cases h
      | skip
    cases e <;> first
      | cases h
      | skip
    rename_i fn args kws pos
    cases fn <;> first
      | cases h
      | skip
    rename_i x p
    rcases args with _ | ⟨y, _ | ⟨z, _ | ⟨_, _⟩⟩⟩ <;> first
      | exact absurd (show false = true from h) Bool.false_ne_true
      | skip
    cases kws <;> first
      | exact absurd (show false = true from h) Bool.false_ne_true
      | skip
    have h : (decide (x = ("zip" : Str)) && glbB c.sc x && noStar y && noStar z && cmpA G a c y && cmpA G b c z) = true := h
    simp only [Bool.and_eq_true, decide_eq_true_eq] at h
    obtain ⟨⟨⟨⟨⟨rfl, h1⟩, h2⟩, h2'⟩, h3⟩, h4⟩ := h
    obtain ⟨te, p1, q1⟩ := so_A a y o h3
    obtain ⟨tf, p2, q2⟩ := so_A b z o h4
    have e2 : starEach [z] X.env = [(false, eval z X.env)] := star_cons h2'
    have hp := fun (elts : List Expr) (kk : Nat) (tp : Pos) => pi_zipB (p := p) (pos := pos) (elts := elts) (kk := kk) (tpos := tp) (o.gl h1) (o.w.bt _ (by decide)) (pa_cons p1 (pa_cons p2 pa_nil (star_cons h2')) (star_cons h2)) (star_cons h2) (by rw [e2]; rfl)
    rw [← o.w.hK] at hp
    exact ⟨_, hp _ _ _, RI.zip q1 q2⟩
end
end PV

/-! PV: statements: what they do by data, their readings. -/
namespace PV
open PySem L2

inductive St where
  | asg (i : Nat) (a : A) | asgT (t : Tg) (a : A) | par (is : List Nat) (as : List A) | parT (is : List Nat) (as : List A)
  | seti (i : Nat) (ix : E) (a : A) | setf (i c k : Nat) (a : A)
  | aug (i : Nat) (op : BOp) (e : E) | augi (i : Nat) (ix : E) (op : BOp) (e : E) | tri (xs : List St) | app (i : Nat) (a : A)
  | expr (e : E) | ret (a : A) | retN | pass | brk | cont | rai
  | ifs (t : E) (xs ys : List St) | whl (t : E) (xs : List St) | forr (t : Tg) (it : Wk) (xs : List St)
  | fors (t : Tg) (k : Nat) (xs : List St)
structure En where
  nx : Ev → Prop
  rt : Bool → D → Ev → Prop
  bk : Ev → Prop
  ct : Ev → Prop
abbrev WS := En → Ev → Prop
/-- a result goes into a slot -/
def stoE (i : Nat) (r : RR) (env : Ev) (k : Ev → Prop) : Prop := match r with
  | .val d => i < env.length ∧ k (env.set i (.val d))
  | .fr d => i < env.length ∧ k (env.set i (.own d))
  | .sl _ => False
def stoL : List Nat → List RR → Ev → (Ev → Prop) → Prop
  | [], [], env, k => k env
  | i :: is, r :: rs, env, k => stoE i r env fun e => stoL is rs e k
  | _, _, _, _ => False
/-- a result goes back to the caller -/
def retE (lk : List Nat) (r : RR) (env : Ev) (k : Bool → D → Ev → Prop) : Prop := match r with
  | .val d => k false d env
  | .fr d => k true d env
  | .sl i => match env[i]? with
    | some (.own d) => lk.contains i = false ∧ k true d (env.set i .un)
    | _ => False
def ownAt (i : Nat) (env : Ev) : Prop := match env[i]? with | some (.own _) => True | _ => False
def augop (op : BOp) (d e : D) (k : D → Prop) : Prop := match op, d, e with
  | .add, .int i, .int j => k (.int (i + j))
  | .add, .str x, .str y => x.length + y.length ≤ LIM ∧ k (.str (x ++ y))
  | .sub, .int i, .int j => k (.int (i - j))
  | _, _, _ => False
def opI : BOp → Int → Int → Int | .add, i, j => i + j | _, i, j => i - j
@[irreducible] def forL (turn : D → Ev → (Ev → Prop) → Prop) (src : List (RR × D)) (Q : Ev → Prop) : List D → Ev → Prop
  | [], env => Q env
  | d :: ds, env => turn d env fun e => forL turn src Q ds e
theorem forL_n {turn : D → Ev → (Ev → Prop) → Prop} {src : List (RR × D)} {Q : Ev → Prop} {env : Ev} (h : forL turn src Q [] env) : Q env := by with_unfolding_all exact h
theorem forL_c {turn : D → Ev → (Ev → Prop) → Prop} {src : List (RR × D)} {Q : Ev → Prop} {d : D} {ds : List D} {env : Ev} (h : forL turn src Q (d :: ds) env) : turn d env fun e => forL turn src Q ds e := by with_unfolding_all exact h
theorem forL_ni {turn : D → Ev → (Ev → Prop) → Prop} {src : List (RR × D)} {Q : Ev → Prop} {env : Ev} (h : Q env) : forL turn src Q [] env := by with_unfolding_all exact h
theorem forL_ci {turn : D → Ev → (Ev → Prop) → Prop} {src : List (RR × D)} {Q : Ev → Prop} {d : D} {ds : List D} {env : Ev} (h : turn d env fun e => forL turn src Q ds e) : forL turn src Q (d :: ds) env := by with_unfolding_all exact h
/-- a walk over an own list that stays as it is -/
@[irreducible] def forS (turn : D → Ev → (Ev → Prop) → Prop) (i : Nat) (d0 : D) (Q : Ev → Prop) : List D → Ev → Prop
  | [], env => env[i]? = some (.own d0) ∧ Q env
  | d :: ds, env => env[i]? = some (.own d0) ∧ turn d env fun e => forS turn i d0 Q ds e
theorem forS_n {turn : D → Ev → (Ev → Prop) → Prop} {i : Nat} {d0 : D} {Q : Ev → Prop} {env : Ev} (h : forS turn i d0 Q [] env) : env[i]? = some (.own d0) ∧ Q env := by with_unfolding_all exact h
theorem forS_c {turn : D → Ev → (Ev → Prop) → Prop} {i : Nat} {d0 : D} {Q : Ev → Prop} {d : D} {ds : List D} {env : Ev} (h : forS turn i d0 Q (d :: ds) env) : env[i]? = some (.own d0) ∧ turn d env fun e => forS turn i d0 Q ds e := by with_unfolding_all exact h
theorem forS_ni {turn : D → Ev → (Ev → Prop) → Prop} {i : Nat} {d0 : D} {Q : Ev → Prop} {env : Ev} (h0 : env[i]? = some (.own d0)) (h : Q env) : forS turn i d0 Q [] env := by with_unfolding_all exact ⟨h0, h⟩
theorem forS_ci {turn : D → Ev → (Ev → Prop) → Prop} {i : Nat} {d0 : D} {Q : Ev → Prop} {d : D} {ds : List D} {env : Ev} (h0 : env[i]? = some (.own d0)) (h : turn d env fun e => forS turn i d0 Q ds e) : forS turn i d0 Q (d :: ds) env := by with_unfolding_all exact ⟨h0, h⟩
/-- fields, one put -/
def putD (ds : List D) (k : Nat) (d : D) : List D := cond (decide (k < ds.length)) (ds.set k d) (ds ++ [d])
theorem putD_eq (ds : List D) (k : Nat) (d : D) : putD ds k d = if k < ds.length then ds.set k d else ds ++ [d] := by unfold putD; by_cases h : k < ds.length <;> simp [h]
def srcQ : List (RR × D) → Prop
  | [] => True
  | (.val d, e) :: r => d = e ∧ srcQ r
  | (.fr d, e) :: r => d = e ∧ srcQ r
  | (.sl _, _) :: _ => False
theorem srcQ_chk : ∀ {src : List (RR × D)}, srcQ src → ∀ p ∈ src, (∀ e, rdR e p.1 = some p.2) ∧ ∀ k, p.1 ≠ .sl k
  | [], _, p, hp => by simp at hp
  | (.val d, e) :: r, h, p, hp => by
    rcases List.mem_cons.mp hp with rfl | hp
    · exact ⟨fun _ => congrArg some h.1, fun _ z => by cases z⟩
    · exact srcQ_chk h.2 p hp
  | (.fr d, e) :: r, h, p, hp => by
    rcases List.mem_cons.mp hp with rfl | hp
    · exact ⟨fun _ => congrArg some h.1, fun _ z => by cases z⟩
    · exact srcQ_chk h.2 p hp
  | (.sl _, _) :: _, h, _, _ => h.elim
mutual
def wpS (G : Gt) (lk : List Nat) : St → WS
  | .asg i a => fun D env => wpA G a env fun r e1 => stoE i r e1 D.nx
  | .asgT t a => fun D env => wpA G a env fun r e1 => rdK e1 r fun d => (match r with | .val _ => True | _ => False) ∧ match bindT t d e1 with | some e2 => D.nx e2 | none => False
  | .par is as => fun D env => wpL G as env fun rs e1 => stoL is rs e1 D.nx
  | .parT is as => fun D env => wpL G as env fun rs e1 => rs.length ≤ LIM ∧ stoL is rs e1 D.nx
  | .seti i ix a => fun D env => wpA G a env fun r e1 => ownAt i e1 ∧ (wp2 G ix).1 e1 fun r2 e2 => rdK e2 r2 fun n => match r, n, e2[i]? with
    | .val d, .int n, some (.own (.lst ds)) => ∃ j, ixN ds.length n = some j ∧ D.nx (e2.set i (.own (.lst (ds.set j d))))
    | _, _, _ => False
  | .setf i c k a => fun D env => wpA G a env fun r e1 => match r, e1[i]? with
    | .val d, some (.own (.obj c' ds)) => c' = c ∧ k ≤ ds.length ∧ D.nx (e1.set i (.own (.obj c (putD ds k d))))
    | _, _ => False
  | .aug i op e => fun D env => match env[i]? with
    | some (.val d) => (wp2 G e).1 env fun r e1 => rdK e1 r fun d2 => augop op d d2 fun d3 => i < e1.length ∧ D.nx (e1.set i (.val d3))
    | _ => False
  | .augi i ix op e => fun D env => lstAt i env ∧ (wp2 G ix).1 env fun r1 e1 => rdK e1 r1 fun n => match n, e1[i]? with
    | .int n, some (.own (.lst ds)) => (0 ≤ n ∧ n < 16777216) ∧ ∃ z, ds[n.toNat]? = some (.int z) ∧ (wp2 G e).1 e1 fun r2 e2 => rdK e2 r2 fun d => match d, e2[i]? with
      | .int m, some (.own (.lst ds2)) => n.toNat < ds2.length ∧ D.nx (e2.set i (.own (.lst (ds2.set n.toNat (.int (opI op z m))))))
      | _, _ => False
    | _, _ => False
  | .tri xs => wpSs G lk xs
  | .app i a => fun D env => lstAt i env ∧ wpA G a env fun r e1 => match r, e1[i]? with
    | .val d, some (.own (.lst ds)) => ds.length < LIM ∧ D.nx (e1.set i (.own (.lst (ds ++ [d]))))
    | _, _ => False
  | .expr e => fun D env => (wp2 G e).1 env fun _ e1 => D.nx e1
  | .ret a => fun D env => wpA G a env fun r e1 => retE lk r e1 D.rt
  | .retN => fun D env => D.rt false .non env
  | .pass => fun D env => D.nx env
  | .brk => fun D env => D.bk env
  | .cont => fun D env => D.ct env
  | .rai => fun _ _ => False
  | .ifs t xs ys => fun D env => (wp2 G t).2 env fun b e1 => ifB b (wpSs G lk xs D e1) (wpSs G lk ys D e1)
  | .whl t xs => fun D env => ∃ W : Nat → Ev → Prop, (∃ m, W m env) ∧ ∀ m e, W m e → (wp2 G t).2 e fun b e1 =>
      ifB b (wpSs G lk xs { D with nx := fun e' => ∃ m', m' < m ∧ W m' e', ct := fun e' => ∃ m', m' < m ∧ W m' e', bk := D.nx } e1) (D.nx e1)
  | .forr t it xs => fun D env => wpI G it env fun src items e1 => srcQ src ∧
      forL (fun d e k => match bindT t d e with
        | some e2 => wpSs G lk xs { D with nx := k, ct := k, bk := D.nx } e2
        | none => False) src D.nx items e1
  | .fors t i xs => fun D env => match env[i]? with
    | some (.own (.lst ds)) => forS (fun d e k => match bindT t d e with
        | some e2 => wpSs G (i :: lk) xs { D with nx := k, ct := k, bk := D.nx } e2
        | none => False) i (.lst ds) D.nx ds env
    | _ => False
def wpSs (G : Gt) (lk : List Nat) : List St → WS
  | [] => fun D env => D.nx env
  | s :: ss => fun D env => forceK env fun e0 => wpS G lk s { D with nx := fun e => wpSs G lk ss D e } e0
end

/-! ### readings -/
structure EnOk (S : Sg) (Z F : Hp) (lk : List Nat) (σ0 : L2.St) (D : En) (D' : Ends) : Prop where
  nx : ∀ F' env σ H, Same F F' → SR S Z F' env σ H → (∀ i ∈ lk, σ[i]? = σ0[i]?) → D.nx env → D'.nx σ H
  rt : ∀ F' env σ H fr d v, Same F F' → SR S Z F' env σ H → (∀ i ∈ lk, σ[i]? = σ0[i]?) → RRel S Z F' H σ env (if fr = true then .fr d else .val d) v → D.rt fr d env → D'.rt v H
  bk : ∀ F' env σ H, Same F F' → SR S Z F' env σ H → (∀ i ∈ lk, σ[i]? = σ0[i]?) → D.bk env → D'.bk σ H
  ct : ∀ F' env σ H, Same F F' → SR S Z F' env σ H → (∀ i ∈ lk, σ[i]? = σ0[i]?) → D.ct env → D'.ct σ H
def RST (S : Sg) (lk : List Nat) (t : TS) (w : WS) : Prop :=
  ∀ (Z F : Hp) (env : Ev) (σ : L2.St) (H : Hp) (D : En) (D' : Ends), SR S Z F env σ H → EnOk S Z F lk σ D D' → w D env → t D' σ H
section
variable {S : Sg} {lk : List Nat}
theorem EnOk.later {Z F F1 : Hp} {σ0 σ1 : L2.St} {D : En} {D' : Ends} (h : EnOk S Z F lk σ0 D D') (e : Same F F1) (l : ∀ i ∈ lk, σ1[i]? = σ0[i]?) : EnOk S Z F1 lk σ1 D D' :=
  ⟨fun F' env σ H s r q => h.nx F' env σ H (e.trans s) r fun i hi => (q i hi).trans (l i hi),
   fun F' env σ H fr d v s r q => h.rt F' env σ H fr d v (e.trans s) r fun i hi => (q i hi).trans (l i hi),
   fun F' env σ H s r q => h.bk F' env σ H (e.trans s) r fun i hi => (q i hi).trans (l i hi),
   fun F' env σ H s r q => h.ct F' env σ H (e.trans s) r fun i hi => (q i hi).trans (l i hi)⟩
theorem EnOk.weak {Z Z' F : Hp} {σ0 : L2.St} {D : En} {D' : Ends} (h : EnOk S Z F lk σ0 D D') (le : ∀ a o, Z a = some o → Z' a = some o) : EnOk S Z' F lk σ0 D D' :=
  ⟨fun F' env σ H s r q => h.nx F' env σ H s (sr_weak le r) q,
   fun F' env σ H fr d v s r q m => h.rt F' env σ H fr d v s (sr_weak le r) q (rrel_weak le m),
   fun F' env σ H s r q => h.bk F' env σ H s (sr_weak le r) q,
   fun F' env σ H s r q => h.ct F' env σ H s (sr_weak le r) q⟩
/-- into a slot -/
theorem sto_ok {i : Nat} {r : RR} {Z F H : Hp} {env : Ev} {σ : L2.St} {v : V} {k : Ev → Prop} (s : SR S Z F env σ H) (rr : RRel S Z F H σ env r v) (q : stoE i r env k) : ∃ env', k env' ∧ SR S Z F env' (σ.set i (some v)) H := by
  cases r with
  | val d => exact ⟨_, q.2, sr_setV s q.1 rr⟩
  | fr d => exact ⟨_, q.2, sr_setO s q.1 rr⟩
  | sl j => exact False.elim q
theorem set_lk {σ : L2.St} {i : Nat} {v : Option V} (h : lk.contains i = false) : ∀ j ∈ lk, (σ.set i v)[j]? = σ[j]? := fun j hj => by
  refine List.getElem?_set_ne fun e => ?_
  subst e
  rw [List.contains_iff_mem.mpr hj] at h; cases h
theorem RST.asg {i : Nat} {t : TE} {w : WR} (h : RS S t w) (hl : lk.contains i = false) : RST S lk (tAsg t (gName i)) (fun D env => w env fun r e1 => stoE i r e1 D.nx) := by
  intro Z F env σ H D D' s o hw
  refine h Z F env σ H _ _ s hw fun F1 H1 v r e1 q s1 i1 rr => ?_
  obtain ⟨e2, q2, i2⟩ := sto_ok i1 rr q
  exact o.nx F1 e2 _ H1 s1 i2 (set_lk hl) q2
theorem RST.asgT {tg : Tg} {g : TG} {t : TE} {w : WR} (h : RS S t w) (hg : RG S g tg) (hl : (tgSl tg).all (fun i => !lk.contains i) = true) : RST S lk (tAsg t g) (fun D env => w env fun r e1 => rdK e1 r fun d => (match r with | .val _ => True | _ => False) ∧ match bindT tg d e1 with | some e2 => D.nx e2 | none => False) := by
  intro Z F env σ H D D' s o hw
  refine h Z F env σ H _ _ s hw fun F1 H1 v r e1 q s1 i1 rr => ?_
  obtain ⟨d, h1, hv, q⟩ := rdK_some q
  cases r with
  | val d' =>
    have e0 : d' = d := Option.some.inj h1
    subst e0
    cases qb : bindT tg d' e1 with
    | none => rw [qb] at q; exact False.elim q
    | some e2 =>
      rw [qb] at q
      refine hg Z F1 e1 σ H1 d' v e2 _ i1 rr qb fun σ' i2 l f => o.nx F1 e2 σ' H1 s1 i2 (fun i hi => (f i fun z => ?_).1) q
      have := List.all_eq_true.mp hl i z
      rw [List.contains_iff_mem.mpr hi] at this; cases this
  | fr _ => exact False.elim hv
  | sl _ => exact False.elim hv
/-- results of a row as single ones -/
theorem rsok_one {Z Z' F H : Hp} {env : Ev} {σ : L2.St} {r : RR} {rs : List RR} {vs : List V} (le : ∀ a o, Z a = some o → Z' a = some o) (i1 : SR S Z' F env σ H) (h : RsOk S Z Z' F σ (r :: rs) vs) : ∃ v us, vs = v :: us ∧ RsOk S Z Z' F σ rs us ∧ ((∃ d, r = .val d ∧ Rep S F d v) ∨ (∃ d a o, r = .fr d ∧ v = .ref a ∧ Z' a = some o ∧ Z a = none ∧ Cell S F d o ∧ V.ref a ∉ frVs rs us) ∨ ∃ i, r = .sl i) := by
  obtain ⟨v, us, e, h1, h2⟩ := h
  cases r with
  | val d => exact ⟨v, us, e, h1, .inl ⟨d, rfl, h2⟩⟩
  | fr d => obtain ⟨a, o, g⟩ := h2; exact ⟨v, us, e, h1, .inr (.inl ⟨d, a, o, rfl, g⟩)⟩
  | sl i => exact ⟨v, us, e, h1, .inr (.inr ⟨i, rfl⟩)⟩
/-- Z' without one -/
def without (Z : Hp) (a : Addr) : Hp := fun b => if b = a then none else Z b
theorem rsok_without {Z Z' F : Hp} {σ : L2.St} {a : Addr} : ∀ {rs : List RR} {vs : List V}, RsOk S Z Z' F σ rs vs → V.ref a ∉ frVs rs vs → RsOk S Z (without Z' a) F σ rs vs
  | [], _, h, _ => h
  | r :: rs, _, ⟨v, us, e, h1, h2⟩, hn => by
    subst e
    cases r with
    | val d => exact ⟨v, us, rfl, rsok_without h1 hn, h2⟩
    | sl i => exact ⟨v, us, rfl, rsok_without h1 hn, h2⟩
    | fr d =>
      obtain ⟨b, o, rfl, g1, g2, g3, g4⟩ := h2
      have hn : V.ref a ∉ V.ref b :: frVs rs us := hn
      have ne : b ≠ a := fun z => hn (by rw [z]; exact List.mem_cons_self)
      exact ⟨_, us, rfl, rsok_without h1 (fun z => hn (List.mem_cons_of_mem _ z)), b, o, rfl, by unfold without; rw [if_neg ne]; exact g1, g2, g3, g4⟩
theorem rsok_set {Z Z' F : Hp} {σ : L2.St} {i : Nat} {w : Option V} : ∀ {rs : List RR} {vs : List V}, RsOk S Z Z' F σ rs vs → (∀ j, .sl j ∉ rs) → RsOk S Z Z' F (σ.set i w) rs vs
  | [], _, h, _ => h
  | r :: rs, _, ⟨v, us, e, h1, h2⟩, hn => by
    subst e
    refine ⟨v, us, rfl, rsok_set h1 (fun j z => hn j (List.mem_cons_of_mem _ z)), ?_⟩
    cases r with
    | val d => exact h2
    | fr d => exact h2
    | sl j => exact absurd List.mem_cons_self (hn j)
theorem stoL_ns {is : List Nat} {rs : List RR} {env : Ev} {k : Ev → Prop} (h : stoL is rs env k) : ∀ j, .sl j ∉ rs := by
  induction rs generalizing is env k with
  | nil => intro j hj; simp at hj
  | cons r rs ih =>
    cases is with
    | nil => exact False.elim h
    | cons i is =>
      have h : stoE i r env fun e => stoL is rs e k := h
      intro j hj
      cases r with
      | val d => rcases List.mem_cons.mp hj with z | z; cases z; exact ih h.2 j z
      | fr d => rcases List.mem_cons.mp hj with z | z; cases z; exact ih h.2 j z
      | sl _ => exact h
def setL : List Nat → List V → L2.St → L2.St
  | i :: is, v :: vs, σ => setL is vs (σ.set i (some v))
  | _, _, σ => σ
theorem stoL_ok {Z F H : Hp} : ∀ {is : List Nat} {rs : List RR} {vs : List V} {Z' : Hp} {env : Ev} {σ : L2.St} {k : Ev → Prop}, (∀ a o, Z a = some o → Z' a = some o) → SR S Z' F env σ H → RsOk S Z Z' F σ rs vs → stoL is rs env k →
    ∃ env', k env' ∧ SR S Z F env' (setL is vs σ) H ∧ vs.length = is.length
  | [], [], vs, Z', env, σ, k, le, s, r, q => by cases (show vs = [] from r); exact ⟨env, q, sr_weak le s, rfl⟩
  | [], _ :: _, _, _, _, _, _, _, _, _, q => False.elim q
  | _ :: _, [], _, _, _, _, _, _, _, _, q => False.elim q
  | i :: is, r :: rs, vs, Z', env, σ, k, le, s, h, q => by
    have ns := stoL_ns q
    have ns' : ∀ j, RR.sl j ∉ rs := fun j z => ns j (List.mem_cons_of_mem _ z)
    have q : stoE i r env fun e => stoL is rs e k := q
    obtain ⟨v, us, rfl, h1, h2⟩ := rsok_one le s h
    rcases h2 with ⟨d, rfl, h2⟩ | ⟨d, a, o, rfl, rfl, g1, g2, g3, g4⟩ | ⟨j, rfl⟩
    · obtain ⟨e, q', s', l⟩ := stoL_ok le (sr_setV s q.1 h2) (rsok_set h1 ns') q.2
      exact ⟨e, q', s', by simp [l]⟩
    · have le2 : ∀ b u, without Z' a b = some u → Z' b = some u := fun b u z => by
        unfold without at z
        split at z
        · cases z
        · exact z
      have le3 : ∀ b u, Z b = some u → without Z' a b = some u := fun b u z => by
        unfold without
        rw [if_neg fun y => by subst y; rw [g2] at z; cases z]
        exact le b u z
      have s1 := sr_weak le2 s
      have m : Mine S (without Z' a) F H σ env d (.ref a) := ⟨a, o, rfl, (s.prot a o g1).1, g3, (s.prot a o g1).2, by unfold without; rw [if_pos rfl], fun j e z y => by
        obtain ⟨b, u, p1, p2, p3, p4, p5⟩ := s.own j e z
        rw [y] at p1; cases p1
        rw [g1] at p5; cases p5⟩
      obtain ⟨e, q', s', l⟩ := stoL_ok le3 (sr_setO s1 q.1 m) (rsok_set (rsok_without h1 g4) ns') q.2
      exact ⟨e, q', s', by simp [l]⟩
    · exact absurd List.mem_cons_self (ns j)
theorem setL_lk : ∀ {is : List Nat} {vs : List V} {σ : L2.St}, is.all (fun i => !lk.contains i) = true → ∀ j ∈ lk, (setL is vs σ)[j]? = σ[j]?
  | [], _, _, _, _, _ => by simp [setL]
  | _ :: _, [], _, _, _, _ => by simp [setL]
  | i :: is, v :: vs, σ, h, j, hj => by
    simp only [List.all_cons, Bool.and_eq_true, Bool.not_eq_true'] at h
    show (setL is vs (σ.set i (some v)))[j]? = _
    rw [setL_lk h.2 j hj, set_lk h.1 j hj]
theorem RST.par2 {i j : Nat} {t : TA} {w : Ev → (List RR → Ev → Prop) → Prop} (h : RL S t w) (hl : [i, j].all (fun i => !lk.contains i) = true) : RST S lk (tPar i j t) (fun D env => w env fun rs e1 => stoL [i, j] rs e1 D.nx) := by
  intro Z F env σ H D D' s o hw
  refine h Z F env σ H _ _ s hw fun Z1 F1 H1 vs rs e1 q le s1 i1 rr => ?_
  obtain ⟨e2, q2, i2, l⟩ := stoL_ok le i1 rr q
  rcases vs with _ | ⟨a, _ | ⟨b, _ | ⟨_, _⟩⟩⟩ <;> first
    | (simp at l; done)
    | skip
  exact ⟨a, b, rfl, o.nx F1 e2 _ H1 s1 i2 (setL_lk (is := [i, j]) (vs := [a, b]) hl) q2⟩
theorem RST.par3 {i j l : Nat} {t : TA} {w : Ev → (List RR → Ev → Prop) → Prop} (h : RL S t w) (hl : [i, j, l].all (fun i => !lk.contains i) = true) : RST S lk (tPar3 i j l t) (fun D env => w env fun rs e1 => stoL [i, j, l] rs e1 D.nx) := by
  intro Z F env σ H D D' s o hw
  refine h Z F env σ H _ _ s hw fun Z1 F1 H1 vs rs e1 q le s1 i1 rr => ?_
  obtain ⟨e2, q2, i2, l⟩ := stoL_ok le i1 rr q
  rcases vs with _ | ⟨a, _ | ⟨b, _ | ⟨c, _ | ⟨_, _⟩⟩⟩⟩ <;> first
    | (simp at l; done)
    | skip
  exact ⟨a, b, c, rfl, o.nx F1 e2 _ H1 s1 i2 (setL_lk (is := [i, j, _]) (vs := [a, b, c]) hl) q2⟩
/-- names, one after another -/
def gNs : List Nat → TGs
  | [] => gNil
  | i :: is => gCons (gName i) (gNs is)
theorem gNs_ok : ∀ {is : List Nat} {vs : List V} {σ : L2.St} {H : Hp} {Q : L2.St → Hp → Prop}, vs.length = is.length → Q (setL is vs σ) H → gNs is vs σ H Q
  | [], [], _, _, _, _, q => ⟨rfl, q⟩
  | [], _ :: _, _, _, _, h, _ => by simp at h
  | _ :: _, [], _, _, _, h, _ => by simp at h
  | i :: is, v :: vs, σ, H, Q, h, q => ⟨v, vs, rfl, gNs_ok (is := is) (vs := vs) (by simpa using h) q⟩
theorem RST.parT {is : List Nat} {t : TA} {w : Ev → (List RR → Ev → Prop) → Prop} (h : RL S t w) (hl : is.all (fun i => !lk.contains i) = true) : RST S lk (tAsg (tTup t) (gTup S.K is.length (gNs is))) (fun D env => w env fun rs e1 => rs.length ≤ LIM ∧ stoL is rs e1 D.nx) := by
  intro Z F env σ H D D' s o hw
  refine h Z F env σ H _ _ s hw fun Z1 F1 H1 vs rs e1 q le s1 i1 rr => ?_
  obtain ⟨hlim, q⟩ := q
  obtain ⟨e2, q2, i2, l⟩ := stoL_ok le i1 rr q
  refine ⟨by rw [(rsok_at rr).1, ← lim_eq]; exact hlim, fun p hp => ?_⟩
  refine ⟨p, vs, rfl, SqT.of upd_same, l, gNs_ok l ?_⟩
  exact o.nx F1 e2 _ _ s1 (sr_newH i2 hp) (setL_lk hl) q2
theorem ownAt_ok {i : Nat} {env : Ev} (h : ownAt i env) : ∃ d, env[i]? = some (.own d) := by
  unfold ownAt at h
  split at h
  · rename_i d e; exact ⟨d, e⟩
  · exact False.elim h
theorem lstAt_ok {i : Nat} {env : Ev} (h : lstAt i env) : ∃ ds, env[i]? = some (.own (.lst ds)) := by
  unfold lstAt at h
  split at h
  · rename_i d e; exact ⟨d, e⟩
  · exact False.elim h
theorem tVar_ok {i : Nat} {v : V} {σ : L2.St} {H : Hp} {Q : VK} (e : σ[i]? = some (some v)) (q : Q v H) : tVar i σ H Q := ⟨v, e, q⟩
theorem RST.seti {i : Nat} {t tx : TE} {w wx : WR} (h : RS S t w) (hx : RS S tx wx) : RST S lk (tAsg t (gSub (tVar i) tx rSetL))
    (fun D env => w env fun r e1 => ownAt i e1 ∧ wx e1 fun r2 e2 => rdK e2 r2 fun n => match r, n, e2[i]? with
    | .val d, .int n, some (.own (.lst ds)) => ∃ j, ixN ds.length n = some j ∧ D.nx (e2.set i (.own (.lst (ds.set j d))))
    | _, _, _ => False) := by
  intro Z F env σ H D D' s o hw
  refine h Z F env σ H _ _ s hw fun F1 H1 v r e1 q s1 i1 rr => ?_
  obtain ⟨ho, q⟩ := q
  obtain ⟨d0, ho⟩ := ownAt_ok ho
  obtain ⟨a, u, g1, _⟩ := i1.own i d0 ho
  show gSub (tVar i) tx rSetL v σ H1 D'.nx
  refine tVar_ok g1 ?_
  refine hx _ F1 e1 σ H1 _ _ (zx_sr i1 rr) q fun F2 H2 y r2 e2 q2 s2 i2 rr2 => ?_
  obtain ⟨n, h2, q2⟩ := rdK_some q2
  have rn := now_rr i2 rr2 h2
  have key : ∃ d n' ds, r = .val d ∧ n = .int n' ∧ e2[i]? = some (.own (.lst ds)) ∧ ∃ j, ixN ds.length n' = some j ∧ D.nx (e2.set i (.own (.lst (ds.set j d)))) := by
    split at q2
    · exact ⟨_, _, _, rfl, rfl, by assumption, q2⟩
    · exact q2.elim
  obtain ⟨d, n', ds, rfl, rfl, e3, j, hj, q2⟩ := key
  have i2' := sr_weak (zx_le rr) i2
  obtain ⟨b, u2, p1, p2, p3, p4, p5⟩ := i2'.own i _ e3
  rw [g1] at p1; cases p1
  obtain ⟨vs, rfl, rvs⟩ := p3
  have rv : Rep S F2 d v := Rep.mono s2 _ _ rr
  refine ⟨a, vs, n', j, rfl, rn.int, p2, by rw [rvs.length]; exact hj, ?_⟩
  exact o.nx F2 _ σ _ (s1.trans s2) (sr_write (d' := .lst (ds.set j d)) i2' e3 g1 ⟨_, rfl, Reps.set rv j rvs⟩) (fun _ _ => rfl) q2
theorem putF_new {f : Str} {v : V} : ∀ {fs : List (Str × V)}, f ∉ fs.map (·.1) → putF f v fs = fs ++ [(f, v)]
  | [], _ => rfl
  | (g, x) :: r, h => by
    have h' : ¬ (f = g ∨ f ∈ r.map (·.1)) := by simpa using h
    have ne : g ≠ f := fun e => h' (.inl e.symm)
    show (if g = f then (g, v) :: r else (g, x) :: putF f v r) = _
    rw [if_neg ne, putF_new fun z => h' (.inr z)]
    rfl
theorem putF_old {f : Str} {v : V} : ∀ {fs : List (Str × V)} {k : Nat}, (fs.map (·.1)).Nodup → (fs.map (·.1))[k]? = some f → (putF f v fs).map (·.1) = fs.map (·.1) ∧ (putF f v fs).map (·.2) = (fs.map (·.2)).set k v
  | [], k, _, h => by simp at h
  | (g, x) :: r, 0, nd, h => by
    have e : g = f := by simpa using h
    subst e
    show ((if g = g then (g, v) :: r else _).map (·.1)) = _ ∧ ((if g = g then (g, v) :: r else _).map (·.2)) = _
    rw [if_pos rfl]
    exact ⟨rfl, rfl⟩
  | (g, x) :: r, k + 1, nd, h => by
    have h' : (r.map (·.1))[k]? = some f := by simpa using h
    have nd' : g ∉ r.map (·.1) ∧ (r.map (·.1)).Nodup := by simpa using nd
    have ne : g ≠ f := fun e => nd'.1 (by rw [e]; exact List.mem_of_getElem? h')
    obtain ⟨h1, h2⟩ := putF_old (v := v) nd'.2 h'
    show ((if g = f then (g, v) :: r else (g, x) :: putF f v r).map (·.1)) = _ ∧ ((if g = f then (g, v) :: r else (g, x) :: putF f v r).map (·.2)) = _
    rw [if_neg ne]
    exact ⟨by simp [h1], by simp [h2]⟩
theorem RST.setf {i c k : Nat} {f : Str} {t : TE} {w : WR} (h : RS S t w) (cl : Cls S.K (S.ca c)) (na : NoAttr S.K (S.ca c) f) (hf : (S.lay c)[k]? = some f) (nd : (S.lay c).Nodup) (hlen : (S.lay c).length < 1000) : RST S lk (sFld S.K (tVar i) t f)
    (fun D env => w env fun r e1 => match r, e1[i]? with
    | .val d, some (.own (.obj c' ds)) => c' = c ∧ k ≤ ds.length ∧ D.nx (e1.set i (.own (.obj c (putD ds k d))))
    | _, _ => False) := by
  intro Z F env σ H D D' s o hw
  refine h Z F env σ H _ _ s hw fun F1 H1 v r e1 q s1 i1 rr => ?_
  split at q
  · rename_i d c' ds e1
    obtain ⟨rfl, hk, q⟩ := q
    obtain ⟨a, u, g1, g2, g3, g4, g5⟩ := i1.own i _ e1
    obtain ⟨dx, fs, rfl, hfs, rfs⟩ := g3
    have hl : fs.length = ds.length := by simpa using rfs.length
    have hl2 : ds.length ≤ (S.lay c').length := by
      have := congrArg List.length hfs
      simp [hl] at this
      omega
    have hk2 : k < (S.lay c').length := (List.getElem?_eq_some_iff.mp hf).1
    refine tVar_ok g1 ⟨a, S.ca c', dx, fs, rfl, g2, cl, na, by omega, ?_⟩
    have rr : Rep S F1 d v := rr
    refine o.nx F1 _ σ _ s1 (sr_write (d' := .obj c' (putD ds k d)) i1 e1 g1 ⟨dx, _, rfl, ?_, ?_⟩) (fun _ _ => rfl) q
    · rw [putD_eq]
      by_cases hkl : k < ds.length
      · rw [if_pos hkl]
        have h1 : (fs.map (·.1))[k]? = some f := by
          rw [hfs, List.getElem?_take_of_lt hkl]; exact hf
        have nd' : (fs.map (·.1)).Nodup := by rw [hfs]; exact nd.sublist (List.take_sublist _ _)
        rw [(putF_old nd' h1).1, hfs, List.length_set]
      · rw [if_neg hkl]
        have e : k = ds.length := by omega
        subst e
        have hn : f ∉ fs.map (·.1) := by
          rw [hfs]
          intro z
          obtain ⟨j, hj⟩ := List.mem_iff_getElem?.mp z
          have hj2 : j < ds.length := by
            have := (List.getElem?_eq_some_iff.mp hj).1
            simp at this; omega
          rw [List.getElem?_take_of_lt hj2] at hj
          have := (List.getElem?_inj (List.getElem?_eq_some_iff.mp hj).1 nd).mp (hj.trans hf.symm)
          omega
        rw [putF_new hn]
        simp only [List.map_append, List.map_cons, List.map_nil, hfs, List.length_append, List.length_singleton]
        rw [List.take_add_one, hf]
        rfl
    · rw [putD_eq]
      by_cases hkl : k < ds.length
      · rw [if_pos hkl]
        have h1 : (fs.map (·.1))[k]? = some f := by
          rw [hfs, List.getElem?_take_of_lt hkl]; exact hf
        have nd' : (fs.map (·.1)).Nodup := by rw [hfs]; exact nd.sublist (List.take_sublist _ _)
        rw [(putF_old nd' h1).2]
        exact Reps.set rr k rfs
      · rw [if_neg hkl]
        have e : k = ds.length := by omega
        subst e
        have hn : f ∉ fs.map (·.1) := by
          rw [hfs]
          intro z
          obtain ⟨j, hj⟩ := List.mem_iff_getElem?.mp z
          have hj2 : j < ds.length := by
            have := (List.getElem?_eq_some_iff.mp hj).1
            simp at this; omega
          rw [List.getElem?_take_of_lt hj2] at hj
          have := (List.getElem?_inj (List.getElem?_eq_some_iff.mp hj).1 nd).mp (hj.trans hf.symm)
          omega
        rw [putF_new hn]
        simp only [List.map_append, List.map_cons, List.map_nil]
        exact Reps.append rfs (Reps.one rr)
  · exact False.elim q
theorem RST.aug {i : Nat} {t : TE} {w : WR} {op : BOp} {ti : TIp} (h : RS S t w) (hl : lk.contains i = false) (ho : ∀ (Z F H : Hp) (env : Ev) (σ : L2.St) (d e : D) (x y : V) (k : D → Prop) (Q : VK), SR S Z F env σ H → Rep S F d x → Rd S F H e y → augop op d e k → (∀ z g, k g → Rep S F g z → Q z H) → ti x y H Q) :
    RST S lk (tAug i t ti) (fun D env => match env[i]? with
    | some (.val d) => w env fun r e1 => rdK e1 r fun d2 => augop op d d2 fun d3 => i < e1.length ∧ D.nx (e1.set i (.val d3))
    | _ => False) := by
  intro Z F env σ H D D' s o hw
  split at hw
  · rename_i d e
    obtain ⟨x, hx, rx⟩ := s.val i d e
    refine ⟨x, hx, h Z F env σ H _ _ s hw fun F1 H1 v r e1 q s1 i1 rr => ?_⟩
    obtain ⟨d2, h1, q⟩ := rdK_some q
    exact ho Z F1 H1 e1 σ d d2 x v _ _ i1 (Rep.mono s1 _ _ rx) (now_rr i1 rr h1) q fun z g q rz => o.nx F1 _ _ H1 s1 (sr_setV i1 q.1 rz) (set_lk hl) q.2
  · exact False.elim hw
def rGetL (K : PySem.W.Frag) : V → V → Hp → VK → Prop := fun x y H Q => ∃ a xs n v, x = .ref a ∧ y = .int n ∧ SqL K H a xs ∧ 0 ≤ n ∧ n < 2 ^ 63 ∧ xs[n.toNat]? = some v ∧ Q v H
theorem get_l {X : Cx} : PGet X (rGetL X.K) := by
  intro pins s σ H o i ov iv Q I r1 r2 h
  obtain ⟨a, xs, n, v, rfl, rfl, hq, h0, h1, hv, q⟩ := h
  cases r1
  obtain ⟨t, rfl⟩ := r2
  obtain ⟨its, r, pl, hz⟩ := I.list hq
  obtain ⟨u, hu, ru⟩ := r.get hv
  exact PySem.wpAny_getItem_list pl.isList h0 h1 (by simpa using hu) ⟨v, H, I, ru, q⟩
theorem ixN_at {len : Nat} {n : Int} (h0 : 0 ≤ n) (h : n.toNat < len) : ixN len n = some n.toNat := by
  unfold ixN
  rw [if_pos (by omega)]
  first | rw [if_pos (by omega)] | skip
theorem RST.augi {i : Nat} {tx te : TE} {wx we : WR} {op : BOp} {ti : TIp} (hx : RS S tx wx) (h : RS S te we) (ho : ∀ z m Q H, Q (.int (opI op z m)) H → ti (.int z) (.int m) H Q) : RST S lk (tAugS (tVar i) tx te (rGetL S.K) ti rSetL) (fun D env => lstAt i env ∧ wx env fun r1 e1 => rdK e1 r1 fun n => match n, e1[i]? with
    | .int n, some (.own (.lst ds)) => (0 ≤ n ∧ n < 16777216) ∧ ∃ z, ds[n.toNat]? = some (.int z) ∧ we e1 fun r2 e2 => rdK e2 r2 fun d => match d, e2[i]? with
      | .int m, some (.own (.lst ds2)) => n.toNat < ds2.length ∧ D.nx (e2.set i (.own (.lst (ds2.set n.toNat (.int (opI op z m))))))
      | _, _ => False
    | _, _ => False) := by
  intro Z F env σ H D D' s o hw
  obtain ⟨hl, hw⟩ := hw
  obtain ⟨d0, hl⟩ := lstAt_ok hl
  obtain ⟨a, u, g1, g2, g3, _⟩ := s.own i _ hl
  refine ⟨V.ref a, g1, ?_⟩
  refine hx Z F env σ H _ _ s hw fun F1 H1 v r e1 q s1 i1 rr => ?_
  obtain ⟨d, gd, q⟩ := rdK_some q
  split at q
  · rename_i n ds e2
    obtain ⟨⟨n0, n1⟩, z, hz, q⟩ := q
    have hv : v = .int n := (now_rr i1 rr gd).int
    subst hv
    obtain ⟨b, u2, p1, p2, p3, p4, p5⟩ := i1.own i _ e2
    rw [g1] at p1
    cases p1
    obtain ⟨vs, rfl, rvs⟩ := p3
    obtain ⟨y, hy, ry⟩ := reps_at rvs hz
    have ey : y = .int z := ry
    subst ey
    refine ⟨a, vs, n, .int z, rfl, rfl, SqL.of p2, n0, by omega, hy, ?_⟩
    refine h Z F1 e1 σ H1 _ _ i1 q fun F2 H2 v2 r2 e3 q s2 i2 rr2 => ?_
    obtain ⟨d2, gd2, q⟩ := rdK_some q
    split at q
    · rename_i m ds2 e4
      obtain ⟨lt, q⟩ := q
      have hv2 : v2 = .int m := (now_rr i2 rr2 gd2).int
      subst hv2
      refine ho z m _ _ ?_
      obtain ⟨b, u2, p1, p2, p3, p4, p5⟩ := i2.own i _ e4
      rw [g1] at p1
      cases p1
      obtain ⟨vs2, rfl, rvs2⟩ := p3
      refine ⟨a, vs2, n, n.toNat, rfl, rfl, p2, ixN_at n0 (by rw [rvs2.length]; exact lt), ?_⟩
      exact o.nx F2 _ σ _ (s1.trans s2) (sr_write (d' := .lst (ds2.set n.toNat (.int (opI op z m)))) i2 e4 g1 ⟨_, rfl, Reps.set (show Rep S F2 (.int (opI op z m)) (.int (opI op z m)) from rfl) _ rvs2⟩) (fun _ _ => rfl) q
    · exact q.elim
  · exact q.elim
/-- whatever reads so -/
def canS (S : Sg) (lk : List Nat) (w : WS) : TS := fun D σ H => ∀ t, RST S lk t w → t D σ H
theorem RST.can {w : WS} : RST S lk (canS S lk w) w := fun Z F env σ H D D' s o hw t q => q Z F env σ H D D' s o hw
theorem RST.app {i : Nat} {t : TE} {w : WR} (h : RS S t w) : RST S lk (tDrop (tBM S.K "list" rAppend (tVar i) (tCons t tNil))) (fun D env => lstAt i env ∧ w env fun r e1 => match r, e1[i]? with
    | .val d, some (.own (.lst ds)) => ds.length < LIM ∧ D.nx (e1.set i (.own (.lst (ds ++ [d]))))
    | _, _ => False) := by
  intro Z F env σ H D D' s o hw
  obtain ⟨ho, hw⟩ := hw
  obtain ⟨d0, ho⟩ := lstAt_ok ho
  obtain ⟨a, u, g1, g2, g3, _⟩ := s.own i _ ho
  obtain ⟨vs0, rfl, _⟩ := g3
  refine ⟨V.ref a, g1, .inl ⟨rfl, vs0, SqL.of g2⟩, ?_⟩
  refine h Z F env σ H _ _ s hw fun F1 H1 v r e1 q s1 i1 rr => ?_
  split at q
  · rename_i d ds e2
    obtain ⟨b, u2, p1, p2, p3, p4, p5⟩ := i1.own i _ e2
    rw [g1] at p1; cases p1
    obtain ⟨vs, rfl, rvs⟩ := p3
    refine ⟨a, vs, v, rfl, rfl, p2, by rw [rvs.length]; exact q.1, ?_⟩
    exact o.nx F1 _ σ _ s1 (sr_write (d' := .lst (ds ++ [d])) i1 e2 g1 ⟨_, rfl, Reps.append rvs (Reps.one rr)⟩) (fun _ _ => rfl) q.2
  · exact False.elim q
theorem RST.expr {t : TE} {w : WR} (h : RS S t w) : RST S lk (tDrop t) (fun D env => w env fun _ e1 => D.nx e1) := by
  intro Z F env σ H D D' s o hw
  exact h Z F env σ H _ _ s hw fun F1 H1 v r e1 q s1 i1 rr => o.nx F1 e1 σ H1 s1 i1 (fun _ _ => rfl) q
theorem RST.ret {t : TE} {w : WR} (h : RS S t w) : RST S lk (tRet t) (fun D env => w env fun r e1 => retE lk r e1 D.rt) := by
  intro Z F env σ H D D' s o hw
  refine h Z F env σ H _ _ s hw fun F1 H1 v r e1 q s1 i1 rr => ?_
  cases r with
  | val d => exact o.rt F1 e1 σ H1 false d v s1 i1 (fun _ _ => rfl) rr q
  | fr d => exact o.rt F1 e1 σ H1 true d v s1 i1 (fun _ _ => rfl) rr q
  | sl i =>
    have q : (match e1[i]? with
      | some (.own d) => lk.contains i = false ∧ D.rt true d (e1.set i .un)
      | _ => False) := q
    split at q
    · rename_i d e2
      obtain ⟨a, u, g1, g2, g3, g4, g5⟩ := i1.own i d e2
      have hv : v = .ref a := by
        have := rr.2
        rw [g1] at this; cases this; rfl
      subst hv
      have hi : i < e1.length := (List.getElem?_eq_some_iff.mp e2).1
      refine o.rt F1 (e1.set i .un) σ H1 true d _ s1 ⟨i1.same, i1.prot, by rw [List.length_set]; exact i1.len, fun j x hj => ?_, fun j x hj => ?_, fun j l x y b hj hl h3 h4 => ?_⟩ (fun _ _ => rfl) ⟨a, u, rfl, g2, g3, g4, g5, fun j x hj z => ?_⟩ q.2
      · rcases (set_sl hi j _).mp hj with ⟨_, z⟩ | ⟨_, z⟩
        · cases z
        · exact i1.val j x z
      · rcases (set_sl hi j _).mp hj with ⟨_, z⟩ | ⟨_, z⟩
        · cases z
        · exact i1.own j x z
      · rcases (set_sl hi j _).mp hj with ⟨_, z⟩ | ⟨_, z⟩
        · cases z
        rcases (set_sl hi l _).mp hl with ⟨_, z'⟩ | ⟨_, z'⟩
        · cases z'
        exact i1.sep j l x y b z z' h3 h4
      · rcases (set_sl hi j _).mp hj with ⟨_, y⟩ | ⟨ne, y⟩
        · cases y
        · exact ne (i1.sep j i x d a y e2 z g1)
    · exact False.elim q
theorem RST.ifs {t : TT} {w : WT} {ta tb : TS} {wa wb : WS} (h : RT S t w) (ha : RST S lk ta wa) (hb : RST S lk tb wb) : RST S lk (tIfS t ta tb) (fun D env => w env fun b e1 => ifB b (wa D e1) (wb D e1)) := by
  intro Z F env σ H D D' s o hw
  refine h Z F env σ H _ _ s hw fun F1 H1 b e1 q s1 i1 => ?_
  cases b with
  | true => exact ha Z F1 e1 σ H1 D D' i1 (o.later s1 fun _ _ => rfl) (ifB_t q)
  | false => exact hb Z F1 e1 σ H1 D D' i1 (o.later s1 fun _ _ => rfl) (ifB_f q)
theorem RST.seq {ta tb : TS} {wa wb : WS} (ha : RST S lk ta wa) (hb : RST S lk tb wb) : RST S lk (tSeq ta tb) (fun D env => wa { D with nx := fun e => wb D e } env) := by
  intro Z F env σ H D D' s o hw
  exact ha Z F env σ H { D with nx := fun e => wb D e } _ s ⟨fun F1 e1 σ1 H1 s1 i1 l q => hb Z F1 e1 σ1 H1 D D' i1 (o.later s1 l) q, o.rt, o.bk, o.ct⟩ hw
theorem RST.whl {t : TT} {w : WT} {tb : TS} {wb : WS} (h : RT S t w) (hb : RST S lk tb wb) : RST S lk (tWhile t tb) (fun D env => ∃ W : Nat → Ev → Prop, (∃ m, W m env) ∧ ∀ m e, W m e → w e fun b e1 =>
      ifB b (wb { D with nx := fun e' => ∃ m', m' < m ∧ W m' e', ct := fun e' => ∃ m', m' < m ∧ W m' e', bk := D.nx } e1) (D.nx e1)) := by
  intro Z F env σ H D D' s o hw
  obtain ⟨W, ⟨m0, w0⟩, turn⟩ := hw
  let W' : Nat → L2.St → Hp → Prop := fun m σ1 H1 => ∃ F1 e1, Same F F1 ∧ SR S Z F1 e1 σ1 H1 ∧ (∀ i ∈ lk, σ1[i]? = σ[i]?) ∧ W m e1
  refine ⟨W', ⟨m0, F, env, Same.refl F, s, fun _ _ => rfl, w0⟩, ?_⟩
  rintro m σ1 H1 ⟨F1, e1, s1, i1, l1, w1⟩
  refine h Z F1 e1 σ1 H1 _ _ i1 (turn m e1 w1) fun F2 H2 b e2 q s2 i2 => ?_
  cases b with
  | false => exact o.nx F2 e2 σ1 H2 (s1.trans s2) i2 l1 (ifB_f q)
  | true =>
    refine ⟨fun σ' H' => ∃ m', m' < m ∧ W' m' σ' H', fun _ _ z => z, ?_⟩
    have nxt : ∀ F' env' σ' H', Same F2 F' → SR S Z F' env' σ' H' → (∀ i ∈ lk, σ'[i]? = σ1[i]?) → (∃ m', m' < m ∧ W m' env') → ∃ m', m' < m ∧ W' m' σ' H' := fun F' env' σ' H' s3 i3 l3 ⟨m', hm, w'⟩ =>
      ⟨m', hm, F', env', (s1.trans s2).trans s3, i3, fun i hi => (l3 i hi).trans (l1 i hi), w'⟩
    have o2 := o.later (s1.trans s2) l1
    exact hb Z F2 e2 σ1 H2 { D with nx := fun e' => ∃ m', m' < m ∧ W m' e', ct := fun e' => ∃ m', m' < m ∧ W m' e', bk := D.nx } _ i2 ⟨nxt, o2.rt, o2.nx, nxt⟩ (ifB_t q)
theorem RST.forr {wi : TI} {wI : Ev → (List (RR × D) → List D → Ev → Prop) → Prop} {g : TG} {tg : Tg} {tb : TS} {wb : WS} (hi : RI S wi wI) (hg : RG S g tg) (hb : RST S lk tb wb) (hl : (tgSl tg).all (fun i => !lk.contains i) = true) :
    RST S lk (tFor wi g tb) (fun D env => wI env fun src items e1 => srcQ src ∧
      forL (fun d e k => match bindT tg d e with
        | some e2 => wb { D with nx := k, ct := k, bk := D.nx } e2
        | none => False) src D.nx items e1) := by
  intro Z F env σ H D D' s o hw
  refine hi Z F env σ H _ _ s hw fun Z1 F1 H1 src items e1 J q1 le1 s1 i1 wk => ?_
  obtain ⟨hsrc, loop⟩ := q1
  have ck : ∀ e, chk src e := fun e p hp => (srcQ_chk hsrc p hp).1 e
  let turnF : PV.D → Ev → (Ev → Prop) → Prop := fun d e k => match bindT tg d e with
        | some e2 => wb { D with nx := k, ct := k, bk := D.nx } e2
        | none => False
  let W : Nat → Nat → L2.St → Hp → Prop := fun i m σ2 H2 => m = items.length - i ∧ i ≤ items.length ∧ ∃ F2 e2, Same F1 F2 ∧ SR S Z1 F2 e2 σ2 H2 ∧ (∀ j ∈ lk, σ2[j]? = σ[j]?) ∧ forL turnF src D.nx (items.drop i) e2
  refine ⟨W, ⟨items.length, by simp, Nat.zero_le _, F1, e1, Same.refl F1, i1, fun _ _ => rfl, by simpa using loop⟩, ?_⟩
  rintro i m σ2 H2 ⟨rfl, hil, F2, e2, sF, i2, l2, lp⟩
  have hσ : ∀ p ∈ src, ∀ k, p.1 = .sl k → σ2[k]? = σ[k]? := fun p hp k hk => absurd hk ((srcQ_chk hsrc p hp).2 k)
  obtain ⟨wstop, wgo⟩ := wk _ i F2 e2 σ2 H2 (fun _ _ z => z) sF i2 hσ (ck e2)
  by_cases hlt : i < items.length
  · obtain ⟨y, hy⟩ : ∃ y, items[i]? = some y := ⟨_, List.getElem?_eq_getElem hlt⟩
    have hdrop : items.drop i = y :: items.drop (i + 1) := by
      rw [List.drop_eq_getElem_cons hlt]
      rw [List.getElem?_eq_getElem hlt] at hy
      cases hy; rfl
    rw [hdrop] at lp
    have lp : turnF y e2 (fun e => forL turnF src D.nx (items.drop (i + 1)) e) := forL_c lp
    obtain ⟨jgo, jy⟩ := wgo y hy
    refine .inr ⟨jgo, W (i + 1) (items.length - (i + 1)), fun σ' H3 w => ⟨_, by omega, w⟩, fun x H3 hx => ?_⟩
    obtain ⟨F3, sF3, i3, r3⟩ := jy x H3 hx
    cases qb : bindT tg y e2 with
    | none => simp only [turnF, qb] at lp
    | some e3 =>
      simp only [turnF, qb] at lp
      refine hg _ F3 e2 σ2 H3 y x e3 _ i3 r3 qb fun σ4 i4 l4 f4 => ?_
      have lk4 : ∀ j ∈ lk, σ4[j]? = σ2[j]? := fun j hj => (f4 j fun z => by
        have := List.all_eq_true.mp hl j z
        rw [List.contains_iff_mem.mpr hj] at this; cases this).1
      have nxt : ∀ F' env' σ' H', Same F3 F' → SR S Z1 F' env' σ' H' → (∀ j ∈ lk, σ'[j]? = σ4[j]?) → forL turnF src D.nx (items.drop (i + 1)) env' → W (i + 1) (items.length - (i + 1)) σ' H' := fun F' env' σ' H' s5 i5 l5 q5 =>
        ⟨rfl, hlt, F', env', (sF.trans sF3).trans s5, i5, fun j hj => ((l5 j hj).trans (lk4 j hj)).trans (l2 j hj), q5⟩
      have o2 := ((o.later (s1.trans (sF.trans sF3)) l2).later (Same.refl _) lk4).weak le1
      exact hb Z1 F3 e3 σ4 H3 { D with nx := fun e => forL turnF src D.nx (items.drop (i + 1)) e, ct := fun e => forL turnF src D.nx (items.drop (i + 1)) e, bk := D.nx } _ i4 ⟨nxt, o2.rt, o2.nx, nxt⟩ lp
  · have e : i = items.length := by omega
    subst e
    refine .inl ⟨wstop (Nat.le_refl _), ?_⟩
    rw [List.drop_length] at lp
    exact o.nx F2 e2 σ2 H2 (s1.trans sF) (sr_weak le1 i2) l2 (forL_n lp)
theorem EnOk.more {Z F : Hp} {σ0 : L2.St} {D : En} {D' : Ends} {k : Nat} (h : EnOk S Z F lk σ0 D D') : EnOk S Z F (k :: lk) σ0 D D' :=
  ⟨fun F' env σ H s r q => h.nx F' env σ H s r fun i hi => q i (List.mem_cons_of_mem _ hi),
   fun F' env σ H fr d v s r q => h.rt F' env σ H fr d v s r fun i hi => q i (List.mem_cons_of_mem _ hi),
   fun F' env σ H s r q => h.bk F' env σ H s r fun i hi => q i (List.mem_cons_of_mem _ hi),
   fun F' env σ H s r q => h.ct F' env σ H s r fun i hi => q i (List.mem_cons_of_mem _ hi)⟩
theorem RST.fors {wi : TI} {wI : Ev → (List (RR × D) → List D → Ev → Prop) → Prop} {g : TG} {tg : Tg} {tb : TS} {wb : WS} {k : Nat} (hi : RI S wi wI) (hg : RG S g tg) (hb : RST S (k :: lk) tb wb) (hl : (tgSl tg).all (fun i => !(k :: lk).contains i) = true)
    (hI : ∀ (env : Ev) (ds : List PV.D) (Q : List (RR × PV.D) → List PV.D → Ev → Prop), env[k]? = some (.own (.lst ds)) → Q [(.sl k, .lst ds)] ds env → wI env Q) :
    RST S lk (tFor wi g tb) (fun D env => match env[k]? with
    | some (.own (.lst ds)) => forS (fun d e kk => match bindT tg d e with
        | some e2 => wb { D with nx := kk, ct := kk, bk := D.nx } e2
        | none => False) k (.lst ds) D.nx ds env
    | _ => False) := by
  intro Z F env σ H D D' s o hw
  cases q0 : env[k]? with
  | none => simp only [q0] at hw
  | some sl =>
    rcases sl with _ | _ | d0
    · simp only [q0] at hw
    · simp only [q0] at hw
    rcases d0 with _ | _ | _ | _ | _ | ds | _ | _ | _
    all_goals (try (simp only [q0] at hw; done))
    simp only [q0] at hw
    refine hi Z F env σ H (fun src items e1 => src = [(.sl k, .lst ds)] ∧ items = ds ∧ e1 = env) _ s (hI env ds _ q0 ⟨rfl, rfl, rfl⟩) fun Z1 F1 H1 src items e1 J q1 le1 s1 i1 wk => ?_
    obtain ⟨rfl, rfl, rfl⟩ := q1
    let turnF : PV.D → Ev → (Ev → Prop) → Prop := fun d e kk => match bindT tg d e with
        | some e2 => wb { D with nx := kk, ct := kk, bk := D.nx } e2
        | none => False
    have ck : ∀ e : Ev, e[k]? = some (.own (.lst items)) → chk [(.sl k, .lst items)] e := fun e he p hp => by
      rw [List.mem_singleton.mp hp]
      simp only [rdR, he]
    let W : Nat → Nat → L2.St → Hp → Prop := fun i m σ2 H2 => m = items.length - i ∧ i ≤ items.length ∧ ∃ F2 e2, Same F1 F2 ∧ SR S Z1 F2 e2 σ2 H2 ∧ (∀ j ∈ k :: lk, σ2[j]? = σ[j]?) ∧ forS turnF k (.lst items) D.nx (items.drop i) e2
    refine ⟨W, ⟨items.length, by simp, Nat.zero_le _, F1, e1, Same.refl F1, i1, fun _ _ => rfl, by simpa using hw⟩, ?_⟩
    rintro i m σ2 H2 ⟨rfl, hil, F2, e2, sF, i2, l2, lp⟩
    have hk2 : e2[k]? = some (.own (.lst items)) := by
      cases q : items.drop i with
      | nil => rw [q] at lp; exact (forS_n lp).1
      | cons y r => rw [q] at lp; exact (forS_c lp).1
    have hσ : ∀ p ∈ [((RR.sl k, PV.D.lst items) : RR × PV.D)], ∀ k', p.1 = .sl k' → σ2[k']? = σ[k']? := fun p hp k' hk' => by
      rw [List.mem_singleton.mp hp] at hk'
      cases hk'
      exact l2 k List.mem_cons_self
    obtain ⟨wstop, wgo⟩ := wk _ i F2 e2 σ2 H2 (fun _ _ z => z) sF i2 hσ (ck e2 hk2)
    by_cases hlt : i < items.length
    · obtain ⟨y, hy⟩ : ∃ y, items[i]? = some y := ⟨_, List.getElem?_eq_getElem hlt⟩
      have hdrop : items.drop i = y :: items.drop (i + 1) := by
        rw [List.drop_eq_getElem_cons hlt]
        rw [List.getElem?_eq_getElem hlt] at hy
        cases hy; rfl
      rw [hdrop] at lp
      have lp : turnF y e2 (fun e => forS turnF k (.lst items) D.nx (items.drop (i + 1)) e) := (forS_c lp).2
      obtain ⟨jgo, jy⟩ := wgo y hy
      refine .inr ⟨jgo, W (i + 1) (items.length - (i + 1)), fun σ' H3 w => ⟨_, by omega, w⟩, fun x H3 hx => ?_⟩
      obtain ⟨F3, sF3, i3, r3⟩ := jy x H3 hx
      cases qb : bindT tg y e2 with
      | none => simp only [turnF, qb] at lp
      | some e3 =>
        simp only [turnF, qb] at lp
        refine hg _ F3 e2 σ2 H3 y x e3 _ i3 r3 qb fun σ4 i4 l4 f4 => ?_
        have lk4 : ∀ j ∈ k :: lk, σ4[j]? = σ2[j]? := fun j hj => (f4 j fun z => by
          have := List.all_eq_true.mp hl j z
          rw [List.contains_iff_mem.mpr hj] at this; cases this).1
        have nxt : ∀ F' env' σ' H', Same F3 F' → SR S Z1 F' env' σ' H' → (∀ j ∈ k :: lk, σ'[j]? = σ4[j]?) → forS turnF k (.lst items) D.nx (items.drop (i + 1)) env' → W (i + 1) (items.length - (i + 1)) σ' H' := fun F' env' σ' H' s5 i5 l5 q5 =>
          ⟨rfl, hlt, F', env', (sF.trans sF3).trans s5, i5, fun j hj => ((l5 j hj).trans (lk4 j hj)).trans (l2 j hj), q5⟩
        have o2 := ((o.more.later (s1.trans (sF.trans sF3)) l2).later (Same.refl _) lk4).weak le1
        exact hb Z1 F3 e3 σ4 H3 { D with nx := fun e => forS turnF k (.lst items) D.nx (items.drop (i + 1)) e, ct := fun e => forS turnF k (.lst items) D.nx (items.drop (i + 1)) e, bk := D.nx } _ i4 ⟨nxt, o2.rt, o2.nx, nxt⟩ lp
    · have e : i = items.length := by omega
      subst e
      refine .inl ⟨wstop (Nat.le_refl _), ?_⟩
      rw [List.drop_length] at lp
      exact o.nx F2 e2 σ2 H2 (s1.trans sF) (sr_weak le1 i2) (fun j hj => l2 j (List.mem_cons_of_mem _ hj)) (forS_n lp).2
end
end PV

/-! PV: statements: matching, and that what matches is what the small language says. -/
namespace PV
open PySem L2

def notComp : Expr → Bool | .ListComp _ _ _ _ => false | .SetComp _ _ _ _ => false | .DictComp _ _ _ _ _ => false | _ => true
def isFn (sc : Scope) : Bool := decide (sc.kind = .function)
def isLoc (sc : Scope) (x : Str) : Bool := match lk sc x with | some .local => true | _ => false
def bkOf (sc : Scope) : ScopeKind := if sc.kind.isAnnotationScope then .function else sc.kind
/-- the stores of a, b = x, y -/
def swF (sc : Scope) (ts vs : List Expr) : Option (Option (List Str)) :=
  if !(ts.length == 2 || ts.length == 3) || vs.length != ts.length || bkOf sc != .function then some none
  else if vs.any fun | .Starred .. => true | _ => false then some none
  else
    let line := (ts.head?.map (·.pos.line)).getD 0
    let names := ts.filterMap fun
      | .Name id pos => if sc.names.lookup id == some .local && pos.line == line then some id else none
      | _ => none
    if names.length != ts.length || names.eraseDups.length != names.length then some none
    else if vs.all (foldedForSure 8) then some none
    else if vs.all (constantsAlone 8) then none
    else some (some names)
theorem swF_ok {env : Env} {ts vs : List Expr} {k k2 p p2} {r : Option (List Str)} (h : swF env.scope ts vs = some r) : swappedStores [.Tuple ts k p] (.Tuple vs k2 p2) env = pure r := by
  have hb : env.blockKind = bkOf env.scope := rfl
  unfold swF at h
  unfold swappedStores Env.kindOf
  simp only [hb]
  by_cases e : (!(ts.length == 2 || ts.length == 3) || vs.length != ts.length || bkOf env.scope != .function) = true
  · rw [if_pos e] at h; cases h; rw [if_pos e]
  rw [if_neg e] at h ⊢
  split at h
  · rename_i e2; cases h; exact if_pos e2
  rename_i e2
  refine (if_neg e2).trans ?_
  dsimp only at h ⊢
  split at h
  · rename_i e3; cases h; exact if_pos e3
  rename_i e3
  refine (if_neg e3).trans ?_
  split at h
  · rename_i e4; cases h; exact if_pos e4
  rename_i e4
  refine (if_neg e4).trans ?_
  split at h
  · cases h
  rename_i e5
  cases h
  exact if_neg e5
def swOk (c : Cs) (x : Str) (p : Pos) : Expr → Bool
  | .ListComp _ _ scope pos => isFn c.sc && isLoc c.sc x && (p.line == pos.line) && !(scope.names.any fun (n, k) => n == x && (k == .local || k == .cell))
  | _ => false
def isCel (c : Cs) (x : Str) : Bool := match lk c.sc x with | some .cell => true | _ => false
theorem sw_cell {e : Expr} {x : Str} {p : Pos} {env : Env} (h : env.scope.names.lookup x = some .cell) (n : Nat) : swapsWith e (some (.Name x p)) n env = pure false := by
  have ky : env.kindOf x = some .cell := h
  have no : ((some NameKind.cell : Option NameKind) == some NameKind.local) = false := rfl
  cases e <;> first
    | rfl
    | (unfold swapsWith; simp only [ky, no, Bool.and_false, Bool.false_and])
def augB : BOp → Bool | .add => true | .sub => true | _ => false
def isTupE : Expr → Bool | .Tuple _ _ _ => true | _ => false
/-- a tuple's targets: taken from the tuple itself -/
def tupTg (c : Cs) (tg e : Expr) : Bool := match tg with
  | .Tuple ts _ _ => (match e with | .Tuple vs _ _ => (match swF c.sc ts vs with | some none => true | _ => false) | _ => true)
  | _ => false
def parTg (c : Cs) (is : List Nat) (tg e : Expr) : Option (List Expr) := match tg, e with
  | .Tuple ts _ _, .Tuple vs _ _ => match is, ts with
    | [i, j], [.Name x _, .Name y _] => if decide (c.N[i]? = some x) && decide (c.N[j]? = some y) && decide (i ≠ j) && isLoc c.sc x && isLoc c.sc y && decide (vs.length = 2) && decide (swF c.sc ts vs = some (some [x, y])) then some vs else none
    | [i, j, l], [.Name x _, .Name y _, .Name z _] => if decide (c.N[i]? = some x) && decide (c.N[j]? = some y) && decide (c.N[l]? = some z) && decide (i ≠ j) && decide (i ≠ l) && decide (j ≠ l) && isLoc c.sc x && isLoc c.sc y && isLoc c.sc z && decide (vs.length = 3) && decide (swF c.sc ts vs = some (some [x, y, z])) then some vs else none
    | _, _ => none
  | _, _ => none
def nmsB (c : Cs) : List Nat → List Expr → Bool
  | [], [] => true
  | i :: is, .Name x _ :: ts => storeB c i x && nmsB c is ts
  | _, _ => false
mutual
def cmpS (G : Gt) (lk : List Nat) : St → Cs → Stmt → Bool
  | .asg i a => fun c s => match s with
    | .Assign [.Name x p] e _ => storeB c i x && !lk.contains i && cmpA G a c e && (notComp e || isCel c x || swOk c x p e)
    | _ => false
  | .asgT t a => fun c s => match s with
    | .Assign [tg] e _ => tupTg c tg e && cmpT c t tg && (tgSl t).all (fun i => !lk.contains i) && cmpA G a c e
    | _ => false
  | .par is as => fun c s => match s with
    | .Assign [tg] e _ => is.all (fun i => !lk.contains i) && (match parTg c is tg e with | some vs => cmpAs G as c vs | none => false)
    | _ => false
  | .parT is as => fun c s => match s with
    | .Assign [.Tuple ts _ _] (.Tuple vs _ _) _ => is.all (fun i => !lk.contains i) && decide (swF c.sc ts vs = some none) && nmsB c is ts && cmpAs G as c vs
    | _ => false
  | .seti i ix a => fun c s => match s with
    | .Assign [.Subscript (.Name x _) y _] e _ => decide (c.N[i]? = some x) && visB c.sc x && plainN x && !isSlice y && cmpE G ix c y && cmpA G a c e
    | _ => false
  | .setf i cl k a => fun c s => match s with
    | .Assign [.Attribute (.Name x _) f _] e _ => decide (c.N[i]? = some x) && visB c.sc x && plainN x && decide ((G.lay.getD cl [])[k]? = some f) && decide ((G.lay.getD cl []).length < 1000) && (G.cn[cl]?).isSome && cmpA G a c e
    | _ => false
  | .aug i op e => fun c s => match s with
    | .AugAssign (.Name x _) o y _ => storeB c i x && !lk.contains i && decide (o = bOp op) && augB op && cmpE G e c y
    | _ => false
  | .augi i ix op e => fun c s => match s with
    | .AugAssign (.Subscript (.Name x _) y _) o z _ => decide (c.N[i]? = some x) && visB c.sc x && plainN x && !isSlice y && decide (o = bOp op) && augB op && cmpE G ix c y && cmpE G e c z
    | _ => false
  | .tri xs => fun c s => match s with
    | .Try body [.ExceptHandler (some (.Name x _)) none (_ :: _) _] [] [] _ => c.oc.isNone && glbB c.sc x && plainN x && G.nm.contains x && cmpSs G lk xs c body
    | _ => false
  | .app i a => fun c s => match s with
    | .Expr (.Call (.Attribute (.Name x _) m apos) [e] [] pos) _ => decide (m = ("append" : Str)) && decide (c.N[i]? = some x) && visB c.sc x && plainN x && (apos.endLine == pos.line) && noStar e && cmpA G a c e
    | _ => false
  | .expr e => fun c s => match s with
    | .Expr y _ => notComp y && cmpE G e c y
    | _ => false
  | .ret a => fun c s => match s with
    | .Return (some e) _ => cmpA G a c e
    | _ => false
  | .retN => fun _ s => match s with | .Return none _ => true | _ => false
  | .pass => fun _ s => match s with | .Pass _ => true | _ => false
  | .brk => fun _ s => match s with | .Break _ => true | _ => false
  | .cont => fun _ s => match s with | .Continue _ => true | _ => false
  | .rai => fun _ _ => true
  | .ifs t xs ys => fun c s => match s with
    | .If e a b _ => cmpE G t c e && cmpSs G lk xs c a && cmpSs G lk ys c b
    | _ => false
  | .whl t xs => fun c s => match s with
    | .While e a [] _ => cmpE G t c e && cmpSs G lk xs c a
    | _ => false
  | .forr t it xs => fun c s => match s with
    | .For tg e a [] _ => cmpT c t tg && (tgSl t).all (fun i => !lk.contains i) && cmpI G it c tg e && cmpSs G lk xs c a
    | _ => false
  | .fors t i xs => fun c s => match s with
    | .For tg e a [] _ => cmpT c t tg && (tgSl t).all (fun j => !(i :: lk).contains j) && cmpI G (.it (.p (.var i))) c tg e && cmpSs G (i :: lk) xs c a
    | _ => false
def cmpSs (G : Gt) (lk : List Nat) : List St → Cs → List Stmt → Bool
  | [] => fun _ ss => ss.isEmpty
  | x :: xs => fun c ss => match ss with | s :: r => cmpS G lk x c s && cmpSs G lk xs c r | [] => false
end
def DS (X : Cx) (S : Sg) (lk : List Nat) (s : Stmt) (w : WS) : Prop := ∃ t, PS X s t ∧ RST S lk t w
def DSs (X : Cx) (S : Sg) (lk : List Nat) (ss : List Stmt) (w : WS) : Prop := ∃ t, PSs X ss t ∧ RST S lk t w

section
variable {X : Cx} {S : Sg} {G : Gt} {c : Cs} {lk : List Nat}
/-- a comprehension's parts -/
theorem lc_parts {ir : E} {x : Expr} {gs : List Comprehension} {scope : Scope} {pos : Pos} (o : XOk X S G c) (h : cmpE G ir c (.ListComp x gs scope pos) = true) :
    ∃ t i fs wi g tt te own, gs = [⟨t, i, fs, 0⟩] ∧ PI X t i wi ∧ BlkOk X.N X.env.scope scope own ∧
      (∀ (s : Shared) (H : Hp) (C : Addr) (cl : List (Str × Addr)) (fp : List Addr), PG (X.blk s H scope (compEnvC scope cl C X.env) fp) t g) ∧ (∀ (s : Shared) (H : Hp) (C : Addr) (cl : List (Str × Addr)) (fp : List Addr), PTs (X.blk s H scope (compEnvC scope cl C X.env) fp) fs tt) ∧
      (∀ (s : Shared) (H : Hp) (C : Addr) (cl : List (Str × Addr)) (fp : List Addr), PE (X.blk s H scope (compEnvC scope cl C X.env) fp) x te) ∧ notSet i = true ∧ RS S (tLc wi g tt te (own.map (·.2))) (wp2 G ir).1 := by
  cases ir with
  | lc elt tg it ifs own =>
    rcases gs with _ | ⟨⟨t, i, fs, as⟩, _ | ⟨_, _⟩⟩ <;> first
      | exact absurd (show false = true from h) Bool.false_ne_true
      | skip
    have h : (decide (as = 0) && blkC c.N c.sc scope (ownP c own) && cmpI G it c t i && cmpT (blkS c scope) tg t && cmpIf G ifs (blkS c scope) fs && cmpA G elt (blkS c scope) x && (tgSl tg).all own.contains) = true := h
    simp only [Bool.and_eq_true, decide_eq_true_eq] at h
    obtain ⟨⟨⟨⟨⟨⟨rfl, h1⟩, h2⟩, h3⟩, h4⟩, h5⟩, h6⟩ := h
    obtain ⟨ti, p1, q1⟩ := so_I it t i o h2
    have hown : (ownP c own).map (·.2) = own := by simp [ownP, List.map_map]; exact List.map_id _
    have bk : BlkOk X.N X.env.scope scope (ownP c own) := by rw [o.N, o.sc]; exact blkOk_by h1
    have hb := fun (s : Shared) (H : Hp) (C : Addr) (cl : List (Str × Addr)) (fp : List Addr) => o.blk (scope := scope) s H C cl fp
    refine ⟨t, i, fs, ti, canG S tg, canT S (wpIfs G ifs), canR S (wpA G elt), ownP c own, rfl, p1, bk, fun s H C cl fp => (so_T (hb s H C cl fp) tg t h3).can, fun s H C cl fp => (so_If ifs fs (hb s H C cl fp) h4).can, fun s H C cl fp => (so_A elt x (hb s H C cl fp) h5).can, cmpI_set h2, ?_⟩
    rw [hown]
    exact RS.lc q1 canG_s canT_s canR_s fun i hi => by
      have := List.all_eq_true.mp h6 i hi
      simpa using this
  | _ => cases h
theorem isLoc_ok {x : Str} (o : XOk X S G c) (h : isLoc c.sc x = true) : X.env.scope.names.lookup x = some .local := by
  unfold isLoc PV.lk at h
  rw [o.sc]
  split at h
  · assumption
  · cases h
theorem sw_no {e : Expr} (h : notComp e = true) (t : Option Expr) (n : Nat) (env : Env) : swapsWith e t n env = pure false := by
  cases e <;> first
    | rfl
    | cases h
theorem so_asg {i : Nat} {a : A} {x : Str} {p pos : Pos} {e : Expr} (o : XOk X S G c) (h : cmpS G lk (.asg i a) c (.Assign [.Name x p] e pos) = true) : DS X S lk (.Assign [.Name x p] e pos) (wpS G lk (.asg i a)) := by
  have h : (storeB c i x && !lk.contains i && cmpA G a c e && (notComp e || isCel c x || swOk c x p e)) = true := h
  simp only [Bool.and_eq_true, Bool.not_eq_true', Bool.or_eq_true] at h
  obtain ⟨⟨⟨h1, h2⟩, h3⟩, h4⟩ := h
  obtain ⟨s1, s2, s3⟩ := storeB_ok o h1
  rcases h4 with (h4 | h4) | h4
  · obtain ⟨t, p1, q1⟩ := so_A a e o h3
    exact ⟨_, ps_set o.nd s1 s2 p1 (sw_no h4 _ _ _) s3, RST.asg q1 h2⟩
  · obtain ⟨t, p1, q1⟩ := so_A a e o h3
    have hc : X.env.scope.names.lookup x = some .cell := by
      rw [o.sc]
      unfold isCel at h4
      split at h4
      · assumption
      · cases h4
    exact ⟨_, ps_set o.nd s1 s2 p1 (sw_cell hc _) s3, RST.asg q1 h2⟩
  · cases e <;> first
      | cases h4
      | skip
    rename_i elt gs scope lpos
    have h4 : (isFn c.sc && isLoc c.sc x && (p.line == lpos.line) && !(scope.names.any fun (n, k) => n == x && (k == .local || k == .cell))) = true := h4
    simp only [Bool.and_eq_true, Bool.not_eq_true'] at h4
    obtain ⟨⟨⟨k1, k2⟩, k3⟩, k4⟩ := h4
    have hf : X.env.scope.kind = .function := by rw [o.sc]; exact of_decide_eq_true k1
    have hl := isLoc_ok o k2
    have key : ∀ ir : E, cmpE G ir c (.ListComp elt gs scope lpos) = true → ∃ t, PS X (.Assign [.Name x p] (.ListComp elt gs scope lpos) pos) (tAsg t (gName i)) ∧ RS S t (wp2 G ir).1 := fun ir h => by
      obtain ⟨t, it, fs, wi, g, tt, te, own, rfl, a1, a2, a3, a4, a5, a6, a7⟩ := lc_parts o h
      exact ⟨_, ps_setLc o.calm o.nd s1 hl (sw_true hf hl k3 k4) a1 a2 a3 a4 a5 (set_of a6 X.env), a7⟩
    cases a with
    | v ir =>
      obtain ⟨t, p1, q1⟩ := key ir h3
      exact ⟨_, p1, RST.asg q1.froz h2⟩
    | p ir =>
      obtain ⟨t, p1, q1⟩ := key ir h3
      exact ⟨_, p1, RST.asg q1 h2⟩
theorem so_asgT {t : Tg} {a : A} {tg e : Expr} {pos : Pos} (o : XOk X S G c) (h : cmpS G lk (.asgT t a) c (.Assign [tg] e pos) = true) : DS X S lk (.Assign [tg] e pos) (wpS G lk (.asgT t a)) := by
  have h : (tupTg c tg e && cmpT c t tg && (tgSl t).all (fun i => !lk.contains i) && cmpA G a c e) = true := by
    cases tg <;> exact h
  simp only [Bool.and_eq_true] at h
  obtain ⟨⟨⟨h1, h2⟩, h3⟩, h4⟩ := h
  obtain ⟨g, p1, q1⟩ := so_T o t tg h2
  obtain ⟨te, p2, q2⟩ := so_A a e o h4
  cases tg <;> first
    | cases h1
    | skip
  rename_i ts k tp
  refine ⟨_, ps_asg p2 p1 ?_ ?_ rfl, RST.asgT q2 q1 h3⟩
  · cases e <;> rfl
  · cases e <;> first
      | rfl
      | skip
    rename_i vs k2 p3
    have h1 : (match swF c.sc ts vs with | some none => true | _ => false) = true := h1
    refine swF_ok ?_
    rw [o.sc]
    split at h1
    · assumption
    · cases h1
theorem so_par {is : List Nat} {as : List A} {tg e : Expr} {pos : Pos} (o : XOk X S G c) (h : cmpS G lk (.par is as) c (.Assign [tg] e pos) = true) : DS X S lk (.Assign [tg] e pos) (wpS G lk (.par is as)) := by
  replace h : (is.all (fun i => !lk.contains i) && (match parTg c is tg e with | some vs => cmpAs G as c vs | none => false)) = true := by
    cases tg <;> exact h
  simp only [Bool.and_eq_true] at h
  obtain ⟨h0, h⟩ := h
  cases q : parTg c is tg e with
  | none => rw [q] at h; cases h
  | some vs =>
    rw [q] at h
    unfold parTg at q
    split at q
    · rename_i ts kt tp vs' kv vp
      split at q
      · rename_i i j x px y py
        split at q
        · rename_i e1
          cases q
          simp only [Bool.and_eq_true, decide_eq_true_eq] at e1
          obtain ⟨⟨⟨⟨⟨⟨g1, g2⟩, g3⟩, g4⟩, g5⟩, g6⟩, g7⟩ := e1
          obtain ⟨t, p1, q1⟩ := so_L as vs o h
          rcases vs with _ | ⟨a, _ | ⟨b, _ | ⟨_, _⟩⟩⟩ <;> first
            | (simp at g6; done)
            | skip
          refine ⟨_, ps_par o.calm o.nd (by rw [o.N]; exact g1) (by rw [o.N]; exact g2) g3 (isLoc_ok o g4) (isLoc_ok o g5) p1 (swF_ok (by rw [o.sc]; exact g7)) rfl, RST.par2 q1 h0⟩
        · cases q
      · rename_i i j l x px y py z pz
        split at q
        · rename_i e1
          cases q
          simp only [Bool.and_eq_true, decide_eq_true_eq] at e1
          obtain ⟨⟨⟨⟨⟨⟨⟨⟨⟨⟨g1, g2⟩, g3⟩, g4⟩, g5⟩, g6⟩, g7⟩, g8⟩, g9⟩, ga⟩, gb⟩ := e1
          obtain ⟨t, p1, q1⟩ := so_L as vs o h
          rcases vs with _ | ⟨a, _ | ⟨b, _ | ⟨d, _ | ⟨_, _⟩⟩⟩⟩ <;> first
            | (simp at ga; done)
            | skip
          refine ⟨_, ps_par3 o.calm o.nd (by rw [o.N]; exact g1) (by rw [o.N]; exact g2) (by rw [o.N]; exact g3) g4 g5 g6 (isLoc_ok o g7) (isLoc_ok o g8) (isLoc_ok o g9) p1 (swF_ok (by rw [o.sc]; exact gb)) rfl, RST.par3 q1 h0⟩
        · cases q
      · cases q
    · cases q
theorem nms_ok (o : XOk X S G c) : ∀ {is : List Nat} {ts : List Expr}, nmsB c is ts = true → PGs X ts (gNs is) ∧ (assignEach ts X.env).length = is.length ∧ (assignEach ts X.env).findIdx? (·.1) = none
  | [], [], _ => ⟨pgs_nil, rfl, rfl⟩
  | [], _ :: _, h => by cases h
  | _ :: _, [], h => by cases h
  | i :: is, t :: ts, h => by
    cases t <;> first
      | cases h
      | skip
    rename_i x p
    have h : (storeB c i x && nmsB c is ts) = true := h
    simp only [Bool.and_eq_true] at h
    obtain ⟨s1, s2, s3⟩ := storeB_ok o h.1
    obtain ⟨g, l, f⟩ := nms_ok o h.2
    refine ⟨pgs_cons (pg_name o.nd s1 s2 s3) g rfl, ?_, ?_⟩
    · show (assignEach ts X.env).length + 1 = is.length + 1
      rw [l]
    · show List.findIdx? _ ((false, assign (.Name x p) X.env) :: assignEach ts X.env) = none
      rw [List.findIdx?_cons]
      simp
      intro a b
      have := List.findIdx?_eq_none_iff.mp f (true, a) b
      simp at this
theorem so_parT {is : List Nat} {as : List A} {ts vs : List Expr} {k k2 : Nat} {p p2 pos : Pos} (o : XOk X S G c) (h : cmpS G lk (.parT is as) c (.Assign [.Tuple ts k p] (.Tuple vs k2 p2) pos) = true) : DS X S lk (.Assign [.Tuple ts k p] (.Tuple vs k2 p2) pos) (wpS G lk (.parT is as)) := by
  replace h : (is.all (fun i => !lk.contains i) && decide (swF c.sc ts vs = some none) && nmsB c is ts && cmpAs G as c vs) = true := h
  simp only [Bool.and_eq_true, decide_eq_true_eq] at h
  obtain ⟨⟨⟨h1, h2⟩, h3⟩, h4⟩ := h
  obtain ⟨g, l, f⟩ := nms_ok o h3
  obtain ⟨t, p1, q1⟩ := so_L as vs o h4
  have hg := pg_tup (k := k) (pos := p) o.calm g l f
  rw [← o.w.hK] at hg
  exact ⟨_, ps_asg (pe_tup p1) hg rfl (swF_ok (by rw [o.sc]; exact h2)) rfl, RST.parT q1 h1⟩
end
end PV

/-! PV: statements: the recursion. -/
namespace PV
open PySem L2

section
variable {X : Cx} {S : Sg} {G : Gt} {c : Cs} {lk : List Nat}
theorem XOk.own {E : X.env.frame = X.env.frame} (o : XOk X S G c) : PassesOwn (model X.prog X.w) X.A X.env X.xe := by
  rw [o.xe]; exact PassesOwn.never
theorem pv_ok {i : Nat} {x : Str} {pos : Pos} (o : XOk X S G c) (h1 : c.N[i]? = some x) (h2 : visB c.sc x = true) (h3 : plainN x = true) : PE X (.Name x pos) (tVar i) := by
  obtain ⟨p1, p2, _⟩ := plain3 h3
  exact pe_var (by rw [o.N]; exact h1) (o.vis h2) p1 p2
theorem so_seti {i : Nat} {ix : E} {a : A} {x : Str} {y e : Expr} {px pos p2 : Pos} (o : XOk X S G c) (h : cmpS G lk (.seti i ix a) c (.Assign [.Subscript (.Name x px) y p2] e pos) = true) : DS X S lk (.Assign [.Subscript (.Name x px) y p2] e pos) (wpS G lk (.seti i ix a)) := by
  replace h : (decide (c.N[i]? = some x) && visB c.sc x && plainN x && !isSlice y && cmpE G ix c y && cmpA G a c e) = true := h
  simp only [Bool.and_eq_true, Bool.not_eq_true', decide_eq_true_eq] at h
  obtain ⟨⟨⟨⟨⟨h1, h2⟩, h3⟩, h4⟩, h5⟩, h6⟩ := h
  obtain ⟨tx, p1, q1⟩ := (so_E ix y o h5).1
  obtain ⟨t, p2, q2⟩ := so_A a e o h6
  refine ⟨_, ps_asg p2 (pg_sub (pv_ok o h1 h2 h3) p1 set_list ?_) ?_ ?_ rfl, RST.seti q2 q1⟩
  · intro v
    cases y <;> first
      | rfl
      | cases h4
  · cases e <;> rfl
  · cases e <;> rfl
theorem so_setf {i cl k : Nat} {a : A} {x f : Str} {e : Expr} {px pos p2 : Pos} (o : XOk X S G c) (h : cmpS G lk (.setf i cl k a) c (.Assign [.Attribute (.Name x px) f p2] e pos) = true) : DS X S lk (.Assign [.Attribute (.Name x px) f p2] e pos) (wpS G lk (.setf i cl k a)) := by
  replace h : (decide (c.N[i]? = some x) && visB c.sc x && plainN x && decide ((G.lay.getD cl [])[k]? = some f) && decide ((G.lay.getD cl []).length < 1000) && (G.cn[cl]?).isSome && cmpA G a c e) = true := h
  simp only [Bool.and_eq_true, decide_eq_true_eq] at h
  obtain ⟨⟨⟨⟨⟨⟨h1, h2⟩, h3⟩, h4⟩, h5⟩, h6⟩, h7⟩ := h
  obtain ⟨y, hy⟩ := Option.isSome_iff_exists.mp h6
  obtain ⟨g1, g2, g3, g4⟩ := cls_at o hy
  have hf : (S.lay cl)[k]? = some f := by rw [o.w.lay]; exact h4
  have hl : (S.lay cl).length < 1000 := by rw [o.w.lay]; exact h5
  obtain ⟨t, r2, q2⟩ := so_A a e o h7
  have hp := ps_fld (pos := pos) (pos' := p2) (f := f) (pv_ok (pos := px) o h1 h2 h3) r2 (by cases e <;> rfl)
  rw [← o.w.hK] at hp
  exact ⟨_, hp, RST.setf q2 g1 (g4 k f hf) hf g3 hl⟩
theorem so_aug {i : Nat} {op : BOp} {e : E} {x : Str} {y : Expr} {o' : Operator} {px pos : Pos} (o : XOk X S G c) (h : cmpS G lk (.aug i op e) c (.AugAssign (.Name x px) o' y pos) = true) : DS X S lk (.AugAssign (.Name x px) o' y pos) (wpS G lk (.aug i op e)) := by
  replace h : (storeB c i x && !lk.contains i && decide (o' = bOp op) && augB op && cmpE G e c y) = true := h
  simp only [Bool.and_eq_true, Bool.not_eq_true', decide_eq_true_eq] at h
  obtain ⟨⟨⟨⟨h1, h2⟩, rfl⟩, h4⟩, h5⟩ := h
  obtain ⟨s1, s2, s3⟩ := storeB_ok o h1
  obtain ⟨t, p1, q1⟩ := (so_E e y o h5).1
  cases op <;> first
    | cases h4
    | skip
  · refine ⟨_, ps_aug (ti := fun x y H Q => ipI (fun i j => i + j) x y H Q ∨ (∃ i j, x = .str i ∧ y = .str j ∧ i.length + j.length ≤ sizeLine ∧ Q (.str (i ++ j)) H)) o.nd s1 s2 p1 ?_ s3, RST.aug q1 h2 ?_⟩
    · intro pins s σ H x y v u Q I r1 r2 h
      rcases h with h | h
      · exact ip_add pins s σ H x y v u Q I r1 r2 h
      · exact iop_add_str pins s σ H x y v u Q I r1 r2 h
    · intro Z F H env σ d e x y k Q s rx ry h kk
      cases d <;> cases e <;> first
        | exact False.elim h
        | skip
      · rename_i i j
        cases (show x = _ from rx)
        rw [ry.int]
        exact .inl ⟨i, j, rfl, rfl, kk _ _ h rfl⟩
      · rename_i i j
        cases (show x = _ from rx)
        rw [ry.str]
        exact .inr ⟨i, j, rfl, rfl, by rw [← lim_eq]; exact h.1, kk _ _ h.2 rfl⟩
  · refine ⟨_, ps_aug o.nd s1 s2 p1 ip_sub s3, RST.aug q1 h2 ?_⟩
    intro Z F H env σ d e x y k Q s rx ry h kk
    cases d <;> cases e <;> first
      | exact False.elim h
      | skip
    rename_i i j
    cases (show x = _ from rx)
    rw [ry.int]
    exact ⟨i, j, rfl, rfl, kk _ _ h rfl⟩
theorem so_augi {i : Nat} {ix e : E} {op : BOp} {x : Str} {y z : Expr} {o' : Operator} {px p2 pos : Pos} (o : XOk X S G c) (h : cmpS G lk (.augi i ix op e) c (.AugAssign (.Subscript (.Name x px) y p2) o' z pos) = true) : DS X S lk (.AugAssign (.Subscript (.Name x px) y p2) o' z pos) (wpS G lk (.augi i ix op e)) := by
  replace h : (decide (c.N[i]? = some x) && visB c.sc x && plainN x && !isSlice y && decide (o' = bOp op) && augB op && cmpE G ix c y && cmpE G e c z) = true := h
  simp only [Bool.and_eq_true, Bool.not_eq_true', decide_eq_true_eq] at h
  obtain ⟨⟨⟨⟨⟨⟨⟨h1, h2⟩, h3⟩, h4⟩, rfl⟩, h6⟩, h7⟩, h8⟩ := h
  obtain ⟨tx, p1, q1⟩ := (so_E ix y o h7).1
  obtain ⟨t, p2, q2⟩ := (so_E e z o h8).1
  have gl := get_l (X := X)
  rw [← o.w.hK] at gl
  have aug : ∀ ov iv new, augStore y ov iv new = (do holding [new, ov, iv] (setItem ov iv new); release [new, ov, iv] []; pure .next) := by
    intro ov iv new
    cases y <;> first
      | rfl
      | cases h4
  cases op <;> first
    | cases h6
    | skip
  · exact ⟨_, ps_augS (pv_ok o h1 h2 h3) p1 gl p2 ip_add set_list aug, RST.augi q1 q2 fun z m Q H q => ⟨z, m, rfl, rfl, q⟩⟩
  · exact ⟨_, ps_augS (pv_ok o h1 h2 h3) p1 gl p2 ip_sub set_list aug, RST.augi q1 q2 fun z m Q H q => ⟨z, m, rfl, rfl, q⟩⟩
theorem so_app {i : Nat} {a : A} {x m : Str} {e : Expr} {px apos pos p2 : Pos} (o : XOk X S G c) (h : cmpS G lk (.app i a) c (.Expr (.Call (.Attribute (.Name x px) m apos) [e] [] pos) p2) = true) : DS X S lk (.Expr (.Call (.Attribute (.Name x px) m apos) [e] [] pos) p2) (wpS G lk (.app i a)) := by
  replace h : (decide (m = ("append" : Str)) && decide (c.N[i]? = some x) && visB c.sc x && plainN x && (apos.endLine == pos.line) && noStar e && cmpA G a c e) = true := h
  simp only [Bool.and_eq_true, decide_eq_true_eq] at h
  obtain ⟨⟨⟨⟨⟨⟨rfl, h1⟩, h2⟩, h3⟩, h4⟩, h5⟩, h6⟩ := h
  obtain ⟨t, p1, q1⟩ := so_A a e o h6
  have hs : starEach [e] X.env = (false, eval e X.env) :: starEach [] X.env := star_cons h5
  have hp := ps_expr (pos := p2) (pe_bm (apos := apos) (cpos := pos) PySem.F.plainAttrs_list PySem.F.slot_list_append PySem.F.type_list_append mt_append (pv_ok (pos := px) o h1 h2 h3) (pa_cons p1 pa_nil hs) rfl (by rw [hs]; rfl) h4 hs rfl) rfl
  rw [← o.w.hK] at hp
  exact ⟨_, hp, RST.app q1⟩
end
set_option linter.unusedVariables false in
theorem wI_own {G : Gt} (k : Nat) : ∀ (env : Ev) (ds : List D) (Q : List (RR × D) → List D → Ev → Prop), env[k]? = some (.own (.lst ds)) → Q [(.sl k, .lst ds)] ds env → wpI G (.it (.p (.var k))) env Q := fun env ds Q h q => by
  change (fun (Q' : RR → Ev → Prop) => match env[k]? with
    | some (.val d) => Q' (.val d) env
    | some (.own _) => Q' (.sl k) env
    | _ => False) (fun r e1 => rdK e1 r fun d => match d with
    | .lst xs => Q [(r, .lst xs)] xs e1
    | .tup xs => Q [(r, .tup xs)] xs e1
    | .tpn xs => Q [(r, .tpn xs)] xs e1
    | .rol xs => Q [(r, .rol xs)] xs e1
    | .str z => Q [] (strItems z) e1
    | _ => False)
  simp only [h, rdK, rdR]
  exact q
mutual
theorem so_S {X : Cx} {S : Sg} {G : Gt} {c : Cs} {lk : List Nat} (o : XOk X S G c) : ∀ (ir : St) (s : Stmt), cmpS G lk ir c s = true → DS X S lk s (wpS G lk ir)
  | .asg i a, s, h => by
    cases s <;> first
      | exact absurd (show false = true from h) Bool.false_ne_true
      | skip
    rename_i ts e pos
    rcases ts with _ | ⟨t, _ | ⟨_, _⟩⟩
    · exact absurd (show false = true from h) Bool.false_ne_true
    · cases t <;> first
        | exact absurd (show false = true from h) Bool.false_ne_true
        | exact so_asg o h
    · cases t <;> exact absurd (show false = true from h) Bool.false_ne_true
  | .asgT t a, s, h => by
    cases s <;> first
      | exact absurd (show false = true from h) Bool.false_ne_true
      | skip
    rename_i ts e pos
    rcases ts with _ | ⟨t, _ | ⟨_, _⟩⟩
    · exact absurd (show false = true from h) Bool.false_ne_true
    · exact so_asgT o h
    · exact absurd (show false = true from h) Bool.false_ne_true
  | .par is as, s, h => by
    cases s <;> first
      | exact absurd (show false = true from h) Bool.false_ne_true
      | skip
    rename_i ts e pos
    rcases ts with _ | ⟨t, _ | ⟨_, _⟩⟩
    · exact absurd (show false = true from h) Bool.false_ne_true
    · exact so_par o h
    · exact absurd (show false = true from h) Bool.false_ne_true
  | .parT is as, s, h => by
    cases s <;> first
      | exact absurd (show false = true from h) Bool.false_ne_true
      | skip
    rename_i ts e pos
    rcases ts with _ | ⟨t, _ | ⟨_, _⟩⟩
    · exact absurd (show false = true from h) Bool.false_ne_true
    · cases t <;> first
        | exact absurd (show false = true from h) Bool.false_ne_true
        | skip
      cases e <;> first
        | exact absurd (show false = true from h) Bool.false_ne_true
        | exact so_parT o h
    · cases t <;> exact absurd (show false = true from h) Bool.false_ne_true
  | .seti i ix a, s, h => by
    cases s <;> first
      | exact absurd (show false = true from h) Bool.false_ne_true
      | skip
    rename_i ts e pos
    rcases ts with _ | ⟨t, _ | ⟨_, _⟩⟩
    · exact absurd (show false = true from h) Bool.false_ne_true
    · cases t <;> first
        | exact absurd (show false = true from h) Bool.false_ne_true
        | skip
      rename_i b y p2
      cases b <;> first
        | exact absurd (show false = true from h) Bool.false_ne_true
        | exact so_seti o h
    · cases t <;> first
        | exact absurd (show false = true from h) Bool.false_ne_true
        | (rename_i b _ _ <;> cases b <;> exact absurd (show false = true from h) Bool.false_ne_true)
  | .setf i cl k a, s, h => by
    cases s <;> first
      | exact absurd (show false = true from h) Bool.false_ne_true
      | skip
    rename_i ts e pos
    rcases ts with _ | ⟨t, _ | ⟨_, _⟩⟩
    · exact absurd (show false = true from h) Bool.false_ne_true
    · cases t <;> first
        | exact absurd (show false = true from h) Bool.false_ne_true
        | skip
      rename_i b y p2
      cases b <;> first
        | exact absurd (show false = true from h) Bool.false_ne_true
        | exact so_setf o h
    · cases t <;> first
        | exact absurd (show false = true from h) Bool.false_ne_true
        | (rename_i b _ _ <;> cases b <;> exact absurd (show false = true from h) Bool.false_ne_true)
  | .aug i op e, s, h => by
    cases s <;> first
      | exact absurd (show false = true from h) Bool.false_ne_true
      | skip
    rename_i t o' y pos
    cases t <;> first
      | exact absurd (show false = true from h) Bool.false_ne_true
      | exact so_aug o h
  | .augi i ix op e, s, h => by
    cases s <;> first
      | exact absurd (show false = true from h) Bool.false_ne_true
      | skip
    rename_i tg o' z pos
    cases tg <;> first
      | exact absurd (show false = true from h) Bool.false_ne_true
      | skip
    rename_i b y p2
    cases b <;> first
      | exact absurd (show false = true from h) Bool.false_ne_true
      | exact so_augi o h
  | .tri xs, s, h => by
    cases s <;> first
      | exact absurd (show false = true from h) Bool.false_ne_true
      | skip
    rename_i body hds els fin pos
    rcases hds with _ | ⟨hd, _ | ⟨_, _⟩⟩ <;> first
      | exact absurd (show false = true from h) Bool.false_ne_true
      | skip
    rotate_left
    · exfalso
      unfold cmpS at h
      split at h
      · rename_i q; simp at q
      · cases h
    obtain ⟨ty, nm, suite, pos'⟩ := hd
    cases ty <;> first
      | exact absurd (show false = true from h) Bool.false_ne_true
      | skip
    rename_i ex
    cases ex <;> first
      | exact absurd (show false = true from h) Bool.false_ne_true
      | skip
    rename_i x np
    cases nm <;> first
      | exact absurd (show false = true from h) Bool.false_ne_true
      | skip
    cases suite <;> first
      | exact absurd (show false = true from h) Bool.false_ne_true
      | skip
    rename_i b0 suite
    cases els <;> first
      | exact absurd (show false = true from h) Bool.false_ne_true
      | skip
    cases fin <;> first
      | exact absurd (show false = true from h) Bool.false_ne_true
      | skip
    have h : (c.oc.isNone && glbB c.sc x && plainN x && G.nm.contains x && cmpSs G lk xs c body) = true := h
    simp only [Bool.and_eq_true] at h
    obtain ⟨⟨⟨⟨h1, h2⟩, h3⟩, h4⟩, h5⟩ := h
    obtain ⟨ad, hm⟩ := o.w.nms x (List.contains_iff_mem.mp h4)
    obtain ⟨g1, g2, _⟩ := plain3 h3
    obtain ⟨s1, s2⟩ := o.st (Option.isNone_iff_eq_none.mp h1)
    refine ⟨_, ps_try_only (X := X) (tb := fun _ => canS S lk (wpSs G lk xs)) (ts := fun _ _ _ _ _ _ => False) s1 s2 ⟨o.gl h2, g1, .inl hm⟩ takes_none5 (fun W pn xe _ _ => ?_) (fun a oe cls d pn _ _ => ⟨fun _ _ _ _ _ _ z => z.elim⟩), RST.can⟩
    have o2 : XOk (X.tr pn xe).nox S G c := ⟨o.w, o.N, o.nd, o.sc, o.fn, o.calm, o.room, o.gd, rfl, o.st⟩
    obtain ⟨t, p, q⟩ := so_Ss o2 xs body h5
    exact PSs.nox ⟨fun pins s σ H D I hw => p.run pins s σ H D I (hw t q)⟩
  | .app i a, s, h => by
    cases s <;> first
      | exact absurd (show false = true from h) Bool.false_ne_true
      | skip
    rename_i e pos
    cases e <;> first
      | exact absurd (show false = true from h) Bool.false_ne_true
      | skip
    rename_i f args kws p1
    cases f <;> first
      | exact absurd (show false = true from h) Bool.false_ne_true
      | skip
    rename_i b m apos
    cases b <;> first
      | exact absurd (show false = true from h) Bool.false_ne_true
      | skip
    rcases args with _ | ⟨y, _ | ⟨_, _⟩⟩ <;> first
      | exact absurd (show false = true from h) Bool.false_ne_true
      | skip
    cases kws <;> first
      | exact absurd (show false = true from h) Bool.false_ne_true
      | exact so_app o h
  | .expr ir, s, h => by
    cases s <;> first
      | exact absurd (show false = true from h) Bool.false_ne_true
      | skip
    rename_i e pos
    have h : (notComp e && cmpE G ir c e) = true := h
    simp only [Bool.and_eq_true] at h
    obtain ⟨t, p, q⟩ := (so_E ir e o h.2).1
    exact ⟨_, ps_expr p (sw_no h.1 _ _ _), RST.expr q⟩
  | .ret a, s, h => by
    cases s <;> first
      | exact absurd (show false = true from h) Bool.false_ne_true
      | skip
    rename_i e pos
    cases e with
    | none => exact absurd (show false = true from h) Bool.false_ne_true
    | some e =>
      obtain ⟨t, p, q⟩ := so_A a e o h
      exact ⟨_, ps_ret p, RST.ret q⟩
  | .retN, s, h => by
    cases s <;> first
      | exact absurd (show false = true from h) Bool.false_ne_true
      | skip
    rename_i e pos
    cases e with
    | some e => exact absurd (show false = true from h) Bool.false_ne_true
    | none => exact ⟨_, ps_retN, fun Z F env σ H D D' s o hw => o.rt F env σ H false .non .non (Same.refl F) s (fun _ _ => rfl) rfl hw⟩
  | .pass, s, h => by
    cases s <;> first
      | exact absurd (show false = true from h) Bool.false_ne_true
      | exact ⟨_, ps_pass, fun Z F env σ H D D' s o hw => o.nx F env σ H (Same.refl F) s (fun _ _ => rfl) hw⟩
  | .brk, s, h => by
    cases s <;> first
      | exact absurd (show false = true from h) Bool.false_ne_true
      | exact ⟨_, ps_break, fun Z F env σ H D D' s o hw => o.bk F env σ H (Same.refl F) s (fun _ _ => rfl) hw⟩
  | .cont, s, h => by
    cases s <;> first
      | exact absurd (show false = true from h) Bool.false_ne_true
      | exact ⟨_, ps_continue, fun Z F env σ H D D' s o hw => o.ct F env σ H (Same.refl F) s (fun _ _ => rfl) hw⟩
  | .rai, s, h => ⟨_, ps_never, fun Z F env σ H D D' s o hw => hw⟩
  | .ifs t xs ys, s, h => by
    cases s <;> first
      | exact absurd (show false = true from h) Bool.false_ne_true
      | skip
    rename_i e a b pos
    have h : (cmpE G t c e && cmpSs G lk xs c a && cmpSs G lk ys c b) = true := h
    simp only [Bool.and_eq_true] at h
    obtain ⟨tt, p, q⟩ := (so_E t e o h.1.1).2
    obtain ⟨ta, p1, q1⟩ := so_Ss o xs a h.1.2
    obtain ⟨tb, p2, q2⟩ := so_Ss o ys b h.2
    exact ⟨_, ps_if p p1 p2, RST.ifs q q1 q2⟩
  | .whl t xs, s, h => by
    cases s <;> first
      | exact absurd (show false = true from h) Bool.false_ne_true
      | skip
    rename_i e a b pos
    cases b with
    | cons _ _ => exact absurd (show false = true from h) Bool.false_ne_true
    | nil =>
      have h : (cmpE G t c e && cmpSs G lk xs c a) = true := h
      simp only [Bool.and_eq_true] at h
      obtain ⟨tt, p, q⟩ := (so_E t e o h.1).2
      obtain ⟨ta, p1, q1⟩ := so_Ss o xs a h.2
      exact ⟨_, ps_while (o.own (E := rfl)) p p1, RST.whl q q1⟩
  | .forr tg it xs, s, h => by
    cases s <;> first
      | exact absurd (show false = true from h) Bool.false_ne_true
      | skip
    rename_i t e a b pos
    cases b with
    | cons _ _ => exact absurd (show false = true from h) Bool.false_ne_true
    | nil =>
      have h : (cmpT c tg t && (tgSl tg).all (fun i => !lk.contains i) && cmpI G it c t e && cmpSs G lk xs c a) = true := h
      simp only [Bool.and_eq_true] at h
      obtain ⟨g, p0, q0⟩ := so_T o tg t h.1.1.1
      obtain ⟨ti, p, q⟩ := so_I it t e o h.1.2
      obtain ⟨ta, p1, q1⟩ := so_Ss o xs a h.2
      exact ⟨_, ps_for (o.own (E := rfl)) o.calm p p0 p1 (set_of (cmpI_set h.1.2) X.env), RST.forr q q0 q1 h.1.1.2⟩
  | .fors tg k xs, s, h => by
    cases s <;> first
      | exact absurd (show false = true from h) Bool.false_ne_true
      | skip
    rename_i t e a b pos
    cases b with
    | cons _ _ => exact absurd (show false = true from h) Bool.false_ne_true
    | nil =>
      have h : (cmpT c tg t && (tgSl tg).all (fun j => !(k :: lk).contains j) && cmpI G (.it (.p (.var k))) c t e && cmpSs G (k :: lk) xs c a) = true := h
      simp only [Bool.and_eq_true] at h
      obtain ⟨g, p0, q0⟩ := so_T o tg t h.1.1.1
      obtain ⟨ti, p, q⟩ := so_I (.it (.p (.var k))) t e o h.1.2
      obtain ⟨ta, p1, q1⟩ := so_Ss (lk := k :: lk) o xs a h.2
      exact ⟨_, ps_for (o.own (E := rfl)) o.calm p p0 p1 (set_of (cmpI_set h.1.2) X.env), RST.fors q q0 q1 h.1.1.2 (wI_own k)⟩
theorem so_Ss {X : Cx} {S : Sg} {G : Gt} {c : Cs} {lk : List Nat} (o : XOk X S G c) : ∀ (irs : List St) (ss : List Stmt), cmpSs G lk irs c ss = true → DSs X S lk ss (wpSs G lk irs)
  | [], ss, h => by
    cases ss with
    | cons _ _ => exact absurd (show false = true from h) Bool.false_ne_true
    | nil => exact ⟨_, pss_nil, fun Z F env σ H D D' s o hw => o.nx F env σ H (Same.refl F) s (fun _ _ => rfl) hw⟩
  | ir :: irs, ss, h => by
    cases ss with
    | nil => exact absurd (show false = true from h) Bool.false_ne_true
    | cons s ss =>
      have h : (cmpS G lk ir c s && cmpSs G lk irs c ss) = true := h
      simp only [Bool.and_eq_true] at h
      obtain ⟨t, p, q⟩ := so_S o ir s h.1
      obtain ⟨u, r, w⟩ := so_Ss o irs ss h.2
      exact ⟨_, pss_cons p r, fun Z F env σ H D D' s o hw => RST.seq (wa := wpS G lk ir) (wb := wpSs G lk irs) q w Z F env σ H D D' s o (forceK_o hw)⟩
end
end PV

/-! PV: defs. -/
namespace PV
open PySem L2

def inE : List Bool → List D → Ev
  | true :: io, d :: ds => .own d :: inE io ds
  | false :: io, d :: ds => .val d :: inE io ds
  | _, _ => []
/-- the slots at a def's entry -/
def startE (n : Nat) (io : List Bool) (ds : List D) : Ev := inE io ds ++ List.replicate (n - ds.length) .un
def outE : List Bool → Ev → Option (List D)
  | [], _ => some []
  | false :: io, _ :: e => (outE io e).map (.non :: ·)
  | true :: io, .own d :: e => (outE io e).map (d :: ·)
  | _, _ => none
def outK (io : List Bool) (e : Ev) (k : List D → Prop) : Prop := match outE io e with | some os => k os | none => False
def lkOf (io : List Bool) : List Nat := (List.range io.length).filter fun j => io.getD j false
/-- a def keeps its promise, by data -/
def Keeps (G : Gt) (n : Nat) (io : List Bool) (body : List St) (sp : Spec) : Prop :=
  ∀ (x : sp.α) (ds : List D), sp.pre x ds → ds.length = io.length ∧
    wpSs G (lkOf io) body { nx := fun e => outK io e (sp.post x false .non), rt := fun fr d e => outK io e (sp.post x fr d), bk := fun _ => False, ct := fun _ => False } (startE n io ds)

theorem inE_len : ∀ {io : List Bool} {ds : List D}, ds.length = io.length → (inE io ds).length = io.length
  | [], [], _ => rfl
  | [], _ :: _, h => by simp at h
  | _ :: _, [], h => by simp at h
  | true :: io, d :: ds, h => by simp [inE, inE_len (io := io) (ds := ds) (by simpa using h)]
  | false :: io, d :: ds, h => by simp [inE, inE_len (io := io) (ds := ds) (by simpa using h)]
theorem inE_get : ∀ {io : List Bool} {ds : List D} {i : Nat} {x : Sl}, ds.length = io.length → (inE io ds)[i]? = some x → ∃ d, ds[i]? = some d ∧ ((io[i]? = some true ∧ x = .own d) ∨ (io[i]? = some false ∧ x = .val d))
  | [], [], i, x, _, h => by simp [inE] at h
  | [], _ :: _, _, _, h, _ => by simp at h
  | _ :: _, [], _, _, h, _ => by simp at h
  | true :: io, d :: ds, 0, x, _, h => by
    have h : Sl.own d = x := by simpa [inE] using h
    exact ⟨d, by simp, .inl ⟨by simp, h.symm⟩⟩
  | false :: io, d :: ds, 0, x, _, h => by
    have h : Sl.val d = x := by simpa [inE] using h
    exact ⟨d, by simp, .inr ⟨by simp, h.symm⟩⟩
  | true :: io, d :: ds, i + 1, x, hl, h => by
    have h : (inE io ds)[i]? = some x := by simpa [inE] using h
    simpa using inE_get (by simpa using hl) h
  | false :: io, d :: ds, i + 1, x, hl, h => by
    have h : (inE io ds)[i]? = some x := by simpa [inE] using h
    simpa using inE_get (by simpa using hl) h
theorem startE_get {n : Nat} {io : List Bool} {ds : List D} {i : Nat} {x : Sl} (hl : ds.length = io.length) (h : (startE n io ds)[i]? = some x) : x = .un ∨ ∃ d, ds[i]? = some d ∧ ((io[i]? = some true ∧ x = .own d) ∨ (io[i]? = some false ∧ x = .val d)) := by
  unfold startE at h
  rw [List.getElem?_append] at h
  split at h
  · exact .inr (inE_get hl h)
  · rw [List.getElem?_replicate] at h
    split at h
    · cases h; exact .inl rfl
    · cases h
theorem outE_len : ∀ {io : List Bool} {e : Ev} {os : List D}, outE io e = some os → os.length = io.length
  | [], _, os, h => by cases h; rfl
  | false :: io, x :: e, os, h => by
    cases q : outE io e with
    | none => simp [outE, q] at h
    | some os' =>
      have h : D.non :: os' = os := by simpa [outE, q] using h
      subst h; simp [outE_len q]
  | true :: io, .own d :: e, os, h => by
    cases q : outE io e with
    | none => simp [outE, q] at h
    | some os' =>
      have h : d :: os' = os := by simpa [outE, q] using h
      subst h; simp [outE_len q]
  | true :: io, .val d :: e, os, h => by simp [outE] at h
  | true :: io, .un :: e, os, h => by simp [outE] at h
  | false :: io, [], os, h => by simp [outE] at h
  | true :: io, [], os, h => by simp [outE] at h
theorem outE_get : ∀ {io : List Bool} {e : Ev} {os : List D} {j : Nat} {d : D}, outE io e = some os → io[j]? = some true → os[j]? = some d → e[j]? = some (.own d)
  | [], _, os, j, d, h, h1, _ => by simp at h1
  | false :: io, x :: e, os, j, d, h, h1, h2 => by
    cases q : outE io e with
    | none => simp [outE, q] at h
    | some os' =>
      have h : D.non :: os' = os := by simpa [outE, q] using h
      subst h
      cases j with
      | zero => simp at h1
      | succ j => simpa using outE_get q (by simpa using h1) (by simpa using h2)
  | true :: io, .own d' :: e, os, j, d, h, h1, h2 => by
    cases q : outE io e with
    | none => simp [outE, q] at h
    | some os' =>
      have h : d' :: os' = os := by simpa [outE, q] using h
      subst h
      cases j with
      | zero => simp at h2; subst h2; simp
      | succ j => simpa using outE_get q (by simpa using h1) (by simpa using h2)
  | true :: io, .val d :: e, os, _, _, h, _, _ => by simp [outE] at h
  | true :: io, .un :: e, os, _, _, h, _, _ => by simp [outE] at h
  | false :: io, [], os, _, _, h, _, _ => by simp [outE] at h
  | true :: io, [], os, _, _, h, _, _ => by simp [outE] at h
theorem lkOf_mem {io : List Bool} {j : Nat} (h : io[j]? = some true) : j ∈ lkOf io := by
  unfold lkOf
  rw [List.mem_filter, List.mem_range]
  refine ⟨(List.getElem?_eq_some_iff.mp h).1, ?_⟩
  rw [List.getD_eq_getElem?_getD, h]; rfl
section
variable {P : Program} {w : World} {K : PySem.W.Frag} {mg : Str → Option Value} {base : Heap} {S : Sg} {G : Gt}
theorem sr_start {Z F H : Hp} {n : Nat} {io : List Bool} {ds : List D} {vs : List V} (s : Same F H) (p : ∀ a o, Z a = some o → H a = some o ∧ F a = none) (a : AR S Z F H io ds vs) (N : List Str) (hn : N.length = n) : SR S Z F (startE n io ds) (L2.start N vs) H := by
  have hl : ds.length = vs.length := by rw [a.ld, a.lv]
  have gv : ∀ i v, vs[i]? = some v → (L2.start N vs)[i]? = some (some v) := fun i v h => by
    unfold L2.start
    rw [List.getElem?_append_left (by simpa using (List.getElem?_eq_some_iff.mp h).1), List.getElem?_map, h]; rfl
  have ex : ∀ i d, ds[i]? = some d → ∃ v, vs[i]? = some v := fun i d h => by
    have := (List.getElem?_eq_some_iff.mp h).1
    exact ⟨_, List.getElem?_eq_getElem (by omega)⟩
  refine ⟨s, p, ?_, fun i d h => ?_, fun i d h => ?_, fun i j d e b h1 h2 h3 h4 => ?_⟩
  · unfold L2.start startE
    rw [List.length_append, List.length_append, List.length_map, List.length_replicate, List.length_replicate, inE_len a.ld, ← a.lv, hn, hl]
  · rcases startE_get a.ld h with z | ⟨d', h1, ⟨_, z⟩ | ⟨h2, z⟩⟩
    · cases z
    · cases z
    · cases z
      obtain ⟨v, hv⟩ := ex i d h1
      exact ⟨v, gv i v hv, a.val i d v h2 h1 hv⟩
  · rcases startE_get a.ld h with z | ⟨d', h1, ⟨h2, z⟩ | ⟨h2, z⟩⟩
    · cases z
    · cases z
      obtain ⟨v, hv⟩ := ex i d h1
      obtain ⟨b, o, rfl, g⟩ := a.own i d v h2 h1 hv
      exact ⟨b, o, gv i _ hv, g⟩
    · cases z
  · rcases startE_get a.ld h1 with z | ⟨d', g1, ⟨g2, z⟩ | ⟨g2, z⟩⟩
    · cases z
    · rcases startE_get a.ld h2 with z' | ⟨d'', k1, ⟨k2, z'⟩ | ⟨k2, z'⟩⟩
      · cases z'
      · obtain ⟨v, hv⟩ := ex i _ g1
        obtain ⟨u, hu⟩ := ex j _ k1
        rw [gv i v hv] at h3; cases h3
        rw [gv j u hu] at h4; cases h4
        exact a.sep i j b g2 k2 hv hu
      · cases z'
    · cases z
end
end PV

/-! PV: promises of the usual form, and how one steps. -/
namespace PV
open PySem L2

/-- from arguments (that fulfil pre) an answer, may be new, and what the changed arguments hold then -/
def uspec {α : Type} (args : α → List D) (pre : α → Prop) (fresh : Bool) (res : α → D) (outs : α → List D) : PV.Spec := ⟨α, fun x ds => ds = args x ∧ pre x, fun x fr d o => fr = fresh ∧ d = res x ∧ o = outs x⟩
/-- a value, nothing changed -/
def dspec {α : Type} (args : α → List D) (pre : α → Prop) (res : α → D) : PV.Spec := uspec args pre false res fun x => (args x).map fun _ => .non
theorem putO_none {env : Ev} : ∀ {io : List Bool} {rs : List RR} {os : List D}, io.all (!·) = true → putO io rs os env = env
  | [], _, _, _ => by unfold putO; rfl
  | false :: io, [], _, _ => by unfold putO; rfl
  | false :: io, _ :: _, [], _ => by unfold putO; rfl
  | false :: io, r :: rs, o :: os, h => by
    show putO io rs os env = env
    exact putO_none (by simpa using h)
  | true :: io, _, _, h => by simp at h
theorem okO_vals {env : Ev} : ∀ {io : List Bool} {ds : List D} {us : List Nat}, io.all (!·) = true → io.length = ds.length → okO env io (ds.map .val) us = true
  | [], [], _, _, _ => rfl
  | [], _ :: _, _, _, h => by simp at h
  | _ :: _, [], _, _, h => by simp at h
  | true :: io, _, _, h, _ => by simp at h
  | false :: io, d :: ds, us, h, h2 => okO_vals (io := io) (ds := ds) (us := us) (by simpa using h) (by simpa using h2)
theorem borO_vals {env : Ev} : ∀ {io : List Bool} {ds : List D}, borO env io (ds.map .val) = false
  | [], _ => by unfold borO; rfl
  | true :: _, [] => by unfold borO; rfl
  | false :: _, [] => by unfold borO; rfl
  | true :: io, d :: ds => borO_vals (io := io) (ds := ds)
  | false :: io, d :: ds => borO_vals (io := io) (ds := ds)
theorem rdLs_vals {env : Ev} : ∀ {ds : List D}, rdLs env (ds.map .val) = some ds
  | [] => rfl
  | d :: ds => by
    show (match rdR env (.val d), rdLs env (ds.map .val) with | some d, some ds => some (d :: ds) | _, _ => none) = _
    rw [rdLs_vals (ds := ds)]
    rfl
theorem callK_d {G : Gt} {f : Nat} {i : Fi} {α : Type} {args : α → List D} {pre : α → Prop} {res : α → D} {rs : List RR} {env : Ev} {Q : RR → Ev → Prop} (x : α) (hi : G.fi[f]? = some i) (hs : G.sp f = dspec args pre res) (hrs : rs = (args x).map .val) (hio : i.io.all (!·) = true) (hl : i.io.length = (args x).length) (hp : pre x)
    (k : Q (.val (res x)) env) : callK G f rs env Q := by
  subst hrs
  unfold callK
  rw [hi, hs]
  refine ⟨okO_vals hio hl, ?_⟩
  unfold rdKs
  rw [rdLs_vals]
  refine ⟨x, ⟨rfl, hp⟩, fun fr d o ⟨e1, e2, e3⟩ => ?_⟩
  subst e1 e2 e3
  refine ⟨by rw [List.length_map]; exact hl.symm, fun z => ?_, ?_⟩
  · rw [borO_vals] at z; cases z
  · rw [putO_none hio]
    exact k
/-- the general form -/
theorem callK_u {G : Gt} {f : Nat} {i : Fi} {α : Type} {args : α → List D} {pre : α → Prop} {fresh : Bool} {res : α → D} {outs : α → List D} {rs : List RR} {env : Ev} {Q : RR → Ev → Prop} (x : α) (hi : G.fi[f]? = some i) (hs : G.sp f = uspec args pre fresh res outs) (ho : okO env i.io rs [] = true) (hrd : rdLs env rs = some (args x)) (hl : (outs x).length = i.io.length)
    (hb : borO env i.io rs = true → fresh = false ∧ flatD (res x) = true ∧ flatO i.io (outs x) = true) (hp : pre x) (k : Q (if fresh then .fr (res x) else .val (res x)) (putO i.io rs (outs x) env)) : callK G f rs env Q := by
  unfold callK
  rw [hi, hs]
  refine ⟨ho, ?_⟩
  unfold rdKs
  rw [hrd]
  refine ⟨x, ⟨rfl, hp⟩, fun fr d o ⟨e1, e2, e3⟩ => ?_⟩
  subst e1 e2 e3
  exact ⟨hl, hb, k⟩
theorem okO_vals2 {env : Ev} : ∀ {io : List Bool} {ds : List D} {us : List Nat}, io.all (!·) = true → io.length = ds.length → okO env io (ds.map .val) us = true := okO_vals
/-- a new instance -/
theorem makeK_u {G : Gt} {c f : Nat} {i : Fi} {α : Type} {args : α → List D} {pre : α → Prop} {res : α → D} {outs : α → List D} {rs : List RR} {env : Ev} {Q : RR → Ev → Prop} {io : List Bool} {ds os : List D} {o : D} (x : α) (hi : G.fi[f]? = some i) (hs : G.sp f = uspec args pre false res outs)
    (hio : i.io = true :: io) (hf : io.all (!·) = true) (ha : args x = .obj c [] :: ds) (hrs : rs = ds.map .val) (hl : io.length = ds.length) (ho : outs x = o :: os) (hol : os.length = io.length) (hres : res x = .non) (hp : pre x) (k : Q (.fr o) env) : makeK G c f rs env Q := by
  subst hrs
  unfold makeK
  have e1 : (env ++ [Sl.own (.obj c [])])[env.length]? = some (.own (.obj c [])) := by simp
  refine callK_u x hi hs ?_ ?_ (by rw [ho, hio]; simp [hol]) ?_ hp ?_
  · rw [hio]
    show ((match (env ++ [Sl.own (.obj c [])])[env.length]? with | some (.own _) => true | _ => false) && !([] : List Nat).contains env.length && okO _ io (ds.map .val) [env.length]) = true
    rw [e1, okO_vals hf hl]
    rfl
  · rw [ha]
    show (match rdR (env ++ [Sl.own (.obj c [])]) (.sl env.length), rdLs _ (ds.map .val) with | some d, some ds => some (d :: ds) | _, _ => none) = _
    rw [rdLs_vals]
    show (match (match (env ++ [Sl.own (.obj c [])])[env.length]? with | some (.own d) => some d | some (.val d) => some d | _ => none), some ds with | some d, some ds => some (d :: ds) | _, _ => none) = _
    rw [e1]
  · intro z
    rw [hio] at z
    have z : borO (env ++ [Sl.own (.obj c [])]) io (ds.map .val) = true := z
    rw [borO_vals] at z
    cases z
  · rw [hres, hio, ho]
    have e2 : putO (true :: io) (.sl env.length :: ds.map .val) (o :: os) (env ++ [Sl.own (.obj c [])]) = env ++ [Sl.own o] := by
      show putO io (ds.map .val) os ((env ++ [Sl.own (.obj c [])]).set env.length (.own o)) = _
      rw [putO_none hf]
      simp
    rw [e2]
    refine ⟨rfl, ?_⟩
    rw [List.getLast?_concat, List.dropLast_concat]
    exact k
theorem keeps_u {G : Gt} {n : Nat} {io : List Bool} {body : List PV.St} {α : Type} {args : α → List D} {pre : α → Prop} {fresh : Bool} {res : α → D} {outs : α → List D} (h : ∀ x, pre x → (args x).length = io.length ∧
    wpSs G (lkOf io) body { nx := fun e => outK io e fun o => false = fresh ∧ D.non = res x ∧ o = outs x, rt := fun fr d e => outK io e fun o => fr = fresh ∧ d = res x ∧ o = outs x, bk := fun _ => False, ct := fun _ => False } (startE n io (args x))) : Keeps G n io body (uspec args pre fresh res outs) := by
  rintro x ds ⟨rfl, hp⟩
  exact h x hp
theorem keeps_d {G : Gt} {n : Nat} {io : List Bool} {body : List PV.St} {α : Type} {args : α → List D} {pre : α → Prop} {res : α → D} (h : ∀ x, pre x → (args x).length = io.length ∧
    wpSs G (lkOf io) body { nx := fun e => outK io e fun o => false = false ∧ D.non = res x ∧ o = (args x).map fun _ => .non, rt := fun fr d e => outK io e fun o => fr = false ∧ d = res x ∧ o = (args x).map fun _ => .non, bk := fun _ => False, ct := fun _ => False } (startE n io (args x))) : Keeps G n io body (dspec args pre res) := keeps_u h
/-! ### loops -/
theorem chk_nil {env : Ev} : chk [] env := fun p hp => by simp at hp
theorem chk_one {env : Ev} {r : RR} {d : D} (h : rdR env r = some d) : chk [(r, d)] env := fun p hp => by
  cases List.mem_singleton.mp hp
  exact h
theorem chk_two {env : Ev} {r r' : RR} {d d' : D} (h : rdR env r = some d) (h' : rdR env r' = some d') : chk [(r, d), (r', d')] env := fun p hp => by
  rcases List.mem_cons.mp hp with rfl | hp
  · exact h
  · cases List.mem_singleton.mp hp
    exact h'
/-- a for over an own list that stays, by an invariant -/
theorem for_ixS {turn : D → Ev → (Ev → Prop) → Prop} {k : Nat} {items : List D} {Q : Ev → Prop} {env : Ev} (P : Nat → Ev → Prop) (h0 : P 0 env) (hk : ∀ i e, P i e → e[k]? = some (.own (.lst items)))
    (step : ∀ i d e, items[i]? = some d → P i e → ∀ kk : Ev → Prop, (∀ e', P (i + 1) e' → kk e') → turn d e kk) (fin : ∀ e, P items.length e → Q e) : forS turn k (.lst items) Q items env := by
  have key : ∀ (j : Nat) (i : Nat) (e : Ev), j = items.length - i → i ≤ items.length → P i e → forS turn k (.lst items) Q (items.drop i) e := by
    intro j
    induction j with
    | zero =>
      intro i e hj hi p
      have : i = items.length := by omega
      subst this
      rw [List.drop_length]
      exact forS_ni (hk _ _ p) (fin e p)
    | succ j ih =>
      intro i e hj hi p
      have lt : i < items.length := by omega
      rw [List.drop_eq_getElem_cons lt]
      exact forS_ci (hk _ _ p) (step i _ e (List.getElem?_eq_getElem lt) p _ fun e' p' => ih (i + 1) e' (by omega) (by omega) p')
  have := key items.length 0 env (by omega) (Nat.zero_le _) h0
  rwa [List.drop_zero] at this
/-- a for by an invariant, by the turn's number -/
theorem for_ix {turn : D → Ev → (Ev → Prop) → Prop} {src : List (RR × D)} {Q : Ev → Prop} {items : List D} {env : Ev} (P : Nat → Ev → Prop) (h0 : P 0 env)
    (step : ∀ i d e, items[i]? = some d → P i e → ∀ k : Ev → Prop, (∀ e', P (i + 1) e' → k e') → turn d e k) (fin : ∀ e, P items.length e → Q e) : forL turn src Q items env := by
  have key : ∀ (j : Nat) (i : Nat) (e : Ev), j = items.length - i → i ≤ items.length → P i e → forL turn src Q (items.drop i) e := by
    intro j
    induction j with
    | zero =>
      intro i e hj hi p
      have : i = items.length := by omega
      subst this
      rw [List.drop_length]
      exact forL_ni (fin e p)
    | succ j ih =>
      intro i e hj hi p
      have lt : i < items.length := by omega
      rw [List.drop_eq_getElem_cons lt]
      refine forL_ci ?_
      exact step i _ e (List.getElem?_eq_getElem lt) p _ fun e' p' => ih (i + 1) e' (by omega) lt p'
  have := key items.length 0 env (by simp) (Nat.zero_le _) h0
  rwa [List.drop_zero] at this
/-- a comprehension by an invariant -/
theorem lc_ix {turn : D → Ev → (D → Ev → Prop) → (Ev → Prop) → Prop} {src : List (RR × D)} {Q : List D → Ev → Prop} {items : List D} {env : Ev} (P : Nat → List D → Ev → Prop) (h0 : P 0 [] env) (hc : ∀ i acc e, P i acc e → chk src e) (hl : items.length ≤ LIM)
    (step : ∀ i d acc e, items[i]? = some d → P i acc e → ∀ (ky : D → Ev → Prop) (kn : Ev → Prop), (∀ y e', P (i + 1) (acc ++ [y]) e' → ky y e') → (∀ e', P (i + 1) acc e' → kn e') → turn d e ky kn) (fin : ∀ acc e, P items.length acc e → Q acc e) : lcLoop turn src Q items [] env := by
  have key : ∀ (j : Nat) (i : Nat) (acc : List D) (e : Ev), j = items.length - i → i ≤ items.length → acc.length ≤ i → P i acc e → lcLoop turn src Q (items.drop i) acc e := by
    intro j
    induction j with
    | zero =>
      intro i acc e hj hi ha p
      have : i = items.length := by omega
      subst this
      rw [List.drop_length]
      exact lcLoop_ni ⟨hc _ _ _ p, fin acc e p⟩
    | succ j ih =>
      intro i acc e hj hi ha p
      have lt : i < items.length := by omega
      rw [List.drop_eq_getElem_cons lt]
      refine lcLoop_ci ⟨hc _ _ _ p, by omega, step i _ acc e (List.getElem?_eq_getElem lt) p _ _ (fun y e' p' => ih (i + 1) _ e' (by omega) lt (by simp; omega) p') fun e' p' => ih (i + 1) acc e' (by omega) lt (by omega) p'⟩
  have := key items.length 0 [] env (by simp) (Nat.zero_le _) (Nat.le_refl _) h0
  rwa [List.drop_zero] at this
/-- .. that changes nothing, over xs.map g: xs.map f -/
theorem lc_map {β : Type} {turn : D → Ev → (D → Ev → Prop) → (Ev → Prop) → Prop} {src : List (RR × D)} {Q : List D → Ev → Prop} {env : Ev} {items : List D} (xs : List β) (g : β → D) (f : β → D) (hi : items = xs.map g) (hc : chk src env) (hl : xs.length ≤ LIM)
    (step : ∀ x ∈ xs, ∀ (ky : D → Ev → Prop) (kn : Ev → Prop), ky (f x) env → turn (g x) env ky kn) (fin : Q (xs.map f) env) : lcLoop turn src Q items [] env := by
  subst hi
  refine lc_ix (fun i acc e => e = env ∧ acc = (xs.take i).map f) ⟨rfl, rfl⟩ (fun i acc e p => by rw [p.1]; exact hc) (by simpa using hl) (fun i d acc e hd p ky kn k1 k2 => ?_) fun acc e p => ?_
  · rw [List.getElem?_map] at hd
    cases q : xs[i]? with
    | none => rw [q] at hd; cases hd
    | some x =>
      rw [q] at hd
      cases hd
      obtain ⟨rfl, rfl⟩ := p
      refine step x (List.mem_of_getElem? q) ky kn (k1 _ _ ⟨rfl, ?_⟩)
      rw [List.take_add_one, q, List.map_append]
      rfl
  · obtain ⟨rfl, rfl⟩ := p
    simpa using fin
theorem lc_filter {β : Type} {turn : D → Ev → (D → Ev → Prop) → (Ev → Prop) → Prop} {src : List (RR × D)} {Q : List D → Ev → Prop} {env : Ev} {items : List D} (xs : List β) (g : β → D) (f : β → D) (p : β → Bool) (hi : items = xs.map g) (hc : chk src env) (hl : xs.length ≤ LIM)
    (step : ∀ x ∈ xs, ∀ (ky : D → Ev → Prop) (kn : Ev → Prop), (if p x = true then ky (f x) env else kn env) → turn (g x) env ky kn) (fin : Q ((xs.filter p).map f) env) : lcLoop turn src Q items [] env := by
  subst hi
  refine lc_ix (fun i acc e => e = env ∧ acc = ((xs.take i).filter p).map f) ⟨rfl, rfl⟩ (fun i acc e z => by rw [z.1]; exact hc) (by simpa using hl) (fun i d acc e hd z ky kn k1 k2 => ?_) fun acc e z => ?_
  · rw [List.getElem?_map] at hd
    cases q : xs[i]? with
    | none => rw [q] at hd; cases hd
    | some x =>
      rw [q] at hd
      cases hd
      obtain ⟨rfl, rfl⟩ := z
      refine step x (List.mem_of_getElem? q) ky kn ?_
      by_cases hp : p x = true
      · rw [if_pos hp]
        refine k1 _ _ ⟨rfl, ?_⟩
        rw [List.take_add_one, q, List.filter_append, List.map_append]
        simp [hp]
      · rw [if_neg hp]
        refine k2 _ ⟨rfl, ?_⟩
        rw [List.take_add_one, q, List.filter_append, List.map_append]
        simp [hp]
  · obtain ⟨rfl, rfl⟩ := z
    simpa using fin
theorem boolsD_map {β : Type} (p : β → Bool) : ∀ xs : List β, boolsD (xs.map fun x => D.bl (p x)) = some (xs.map p)
  | [] => rfl
  | x :: xs => by
    show (boolsD (xs.map fun x => D.bl (p x))).map (p x :: ·) = _
    rw [boolsD_map p xs]; rfl
theorem intsD_map {β : Type} (p : β → Int) : ∀ xs : List β, intsD (xs.map fun x => D.int (p x)) = some (xs.map p)
  | [] => rfl
  | x :: xs => by
    show (intsD (xs.map fun x => D.int (p x))).map (p x :: ·) = _
    rw [intsD_map p xs]; rfl
theorem strsD_map {β : Type} (p : β → Str) : ∀ xs : List β, strsD (xs.map fun x => D.str (p x)) = some (xs.map p)
  | [] => rfl
  | x :: xs => by
    show (strsD (xs.map fun x => D.str (p x))).map (p x :: ·) = _
    rw [strsD_map p xs]; rfl
theorem rngD_map (lo : Int) (n : Nat) : rngD lo n = (List.range n).map fun i => .int (lo + (i : Nat)) := rfl
theorem ifB2 {b : Bool} {A B : Prop} (h1 : b = true → A) (h2 : b = false → B) : ifB b A B := by
  cases b with
  | true => exact ifBT (h1 rfl)
  | false => exact ifBF (h2 rfl)
theorem atI_ok {α : Type} {xs : List α} {j : Nat} {x : α} (h : xs[j]? = some x) : atI xs (Int.ofNat j) = some x := by
  unfold atI ixN
  have lt := (List.getElem?_eq_some_iff.mp h).1
  have e : (0 : Int) ≤ Int.ofNat j := Int.natCast_nonneg j
  rw [if_pos e, if_pos (by show ((j : Nat) : Int) < _; omega)]
  exact h
theorem ixL {xs : List D} (j : Nat) {d : D} (h : xs[j]? = some d) : idxD (.lst xs) (Int.ofNat j) = some d := atI_ok h
theorem ixT {xs : List D} (j : Nat) {d : D} (h : xs[j]? = some d) : idxD (.tup xs) (Int.ofNat j) = some d := atI_ok h
theorem ixR {xs : List D} (j : Nat) {d : D} (h : xs[j]? = some d) : idxD (.rol xs) (Int.ofNat j) = some d := atI_ok h
theorem ixP {xs : List D} (j : Nat) {d : D} (h : xs[j]? = some d) : idxD (.tpn xs) (Int.ofNat j) = some d := atI_ok h
theorem ixS {s : Str} (j : Nat) {c : Nat} (hs : s.length ≤ LIM) (h : s.cps.toList[j]? = some c) : idxD (.str s) (Int.ofNat j) = some (.str ⟨#[c]⟩) := by
  show (if s.length ≤ LIM then (atI s.cps.toList (Int.ofNat j)).map (fun c => D.str ⟨#[c]⟩) else none) = _
  rw [if_pos hs, atI_ok h]; rfl
theorem lt_ {n m : Nat} (h : Nat.ble n m = true) : n ≤ m := Nat.le_of_ble_eq_true h
theorem forceK_ok {env env' : Ev} {k : Ev → Prop} (h : env = env') (p : k env') : forceK env k := by subst h; rw [forceK_eq]; exact p
end PV

/-! PV: the head: what the top has written, as decidable words of the written part. -/
namespace PV
open PySem L2

section
variable {ex : List (PySem.W.Frag → Bool)} {fn : List He5.DefA} {ts : List (Str × List Str)} {w : World} {K : PySem.W.Frag}
theorem SaysP.both (c : SaysP ex fn ts w K) : ((ex.all fun f => f K) && fn.all fun d => d.ok K) = true ∧ fn.map (fun d => He5.fnA K (d.at_ K)) = fn.map He5.DefA.val := ⟨congrArg (fun z : AlP => z.1.1) c, congrArg (fun z : AlP => z.1.2) c⟩
theorem SaysP.fact (c : SaysP ex fn ts w K) (i : Nat) {f : PySem.W.Frag → Bool} (h : ex[i]? = some f) : f K = true := by
  have z := (Bool.and_eq_true_iff.mp c.both.1).1
  exact List.all_eq_true.mp z f (List.mem_of_getElem? h)
theorem SaysP.defn (c : SaysP ex fn ts w K) (i : Nat) {d : He5.DefA} (h : fn[i]? = some d) : ∃ fd, FunD K d.name d.qual d.params d.body d.scope (d.dvs K) (d.kws K) (d.at_ K) fd := by
  have z := (Bool.and_eq_true_iff.mp c.both.1).2
  have e : (fn.map fun d => He5.fnA K (d.at_ K))[i]? = (fn.map He5.DefA.val)[i]? := by rw [c.both.2]
  rw [List.getElem?_map, List.getElem?_map, h] at e
  exact He5.DefA.funD (Option.some.inj e) (List.all_eq_true.mp z d (List.mem_of_getElem? h))
theorem SaysP.tab (c : SaysP ex fn ts w K) (i : Nat) {t : Str × List Str} (h : ts[i]? = some t) : ∃ es n, KDict K w (He.ga K t.1) es n := by
  have e : ts.map (fun t => He.dicW K (He.ga K t.1)) = ts.map fun t => some (He.keysIn w.params t.2) := congrArg (fun z : AlP => z.2) c
  have e2 : (ts.map fun t => He.dicW K (He.ga K t.1))[i]? = (ts.map fun t => some (He.keysIn w.params t.2))[i]? := by rw [e]
  rw [List.getElem?_map, List.getElem?_map, h] at e2
  exact He.dicW_ok (Option.some.inj e2)
end
/-! ### words -/
theorem intsAre_ok {S : Sg} {F : Hp} : ∀ {us : List Value} {ns : List D}, intsAre us ns = true → ∃ vs, Vals vs us ∧ Reps S F ns vs
  | [], [], _ => ⟨[], .nil, rfl⟩
  | .int i t :: us, .int n :: ns, h => by
    have h : (decide (i = n) && intsAre us ns) = true := h
    rw [Bool.and_eq_true] at h
    obtain ⟨vs, h1, h2⟩ := intsAre_ok (S := S) (F := F) h.2
    have e : i = n := of_decide_eq_true h.1
    exact ⟨.int i :: vs, .cons ⟨t, rfl⟩ h1, .int i, vs, rfl, by rw [e]; rfl, h2⟩
theorem fTup_ok {S : Sg} {F : Hp} {x : Str} {ns : List D} (h : fTup x ns S.K = true) : fGlo x S.K = true ∧ Rep S F (.tup ns) (.ref (He.ga S.K x)) := by
  unfold fTup at h
  rw [Bool.and_eq_true] at h
  refine ⟨h.1, ?_⟩
  have h2 := h.2
  unfold tupAre at h2
  split at h2
  · rename_i c dd its n sl e
    simp only [Bool.and_eq_true, decide_eq_true_eq] at h2
    obtain ⟨h3, h4, h5⟩ := h2
    obtain ⟨vs, r1, r2⟩ := intsAre_ok (S := S) (F := F) h5
    exact ⟨_, vs, rfl, .inr ⟨_, its, n, e, h3, rfl, Nat.le_trans h4 (by rw [sizeLine_eq]; decide), r1⟩, r2⟩
  · cases h2
theorem fTab_ok {x : Str} {kvs : List (Str × Int)} {K : PySem.W.Frag} (h : fTab x kvs K = true) : fGlo x K = true ∧ ∀ q ∈ kvs, ∃ u, PySem.W.nsIn K (He.ga K x) q.1 = some (some u) ∧ RelV (.int q.2) u := by
  unfold fTab at h
  rw [Bool.and_eq_true] at h
  refine ⟨h.1, fun q hq => ?_⟩
  have h2 := List.all_eq_true.mp h.2 q hq
  split at h2
  · rename_i n t e
    exact ⟨_, e, t, by rw [of_decide_eq_true h2]⟩
  · cases h2
theorem fStat_ok {K : PySem.W.Frag} {x m : Str} (h : fStat x m K = true) : SMet K (He.ga K x) m (He.ma K (He.ga K x) m) (He5.wf K (He.ga K x) "staticmethod" m) := by
  unfold fStat at h
  simp only [Bool.and_eq_true] at h
  obtain ⟨h1, h2, h3, h4⟩ := h
  obtain ⟨g1, g2⟩ := He5.wrapB_ok h1
  exact ⟨⟨h2, He.eqO_ok h3⟩, g1, g2, h4⟩
theorem fIns_ok {K : PySem.W.Frag} {x : Str} (hc : fCls x K = true) (h : fIns x K = true) : InsF K (He.ga K x) := by
  unfold fIns at h
  simp only [Bool.and_eq_true] at h
  obtain ⟨h1, h2, h3, h4⟩ := h
  exact ⟨He.cls_ok hc, He.eqO_ok h1, He.eqO_ok h2, of_decide_eq_true h3, of_decide_eq_true h4⟩
theorem fKit_ok {K : PySem.W.Frag} {x y : Str} {b : Bool} (h : fKit x y b K = true) : PySem.W.kitOne K (.ref (He.ga K x)) (.ref (He.ga K y)) = some b := of_decide_eq_true h
theorem fKitB_ok {K : PySem.W.Frag} {x : Str} (h : fKitB x K = true) : ∀ n ∈ ["NoneType", "bool", "int", "str", "tuple", "list", "dict"], PySem.W.kitOne K (.type n) (.ref (He.ga K x)) = some false := fun n hn => of_decide_eq_true (List.all_eq_true.mp h n hn)
end PV

/-! PV: defs as the head tells them; the table. -/
namespace PV
open PySem L2
section
variable {P : Program} {w : World} {K : PySem.W.Frag} {mg : Str → Option Value} {base : Heap} {S : Sg} {G : Gt}
/-- the body of a def that keeps its promise -/
theorem body_ok {qual : Str} {pb : List Stmt} {scope : Scope} {f : Addr} {cdv : Value} {A : Around} {outer : List Env} {s : Shared} {H : Hp} {vs : List V} {Q : VK} {E E' : XK} {N ps : List Str} {io : List Bool} {body : List St} {sp : Spec} (sc : FnScope N ps scope) (W : WOk P w K mg base S G)
    (h : cmpSs G (lkOf io) body ⟨N, scope, none⟩ pb = true) (kp : Keeps G N.length io body sp) (hr : Room G.room (A.deeper (PyProof.Rows.envOfC qual scope s.heap.objs.size f cdv))) (gd : A.guards = some []) (hs : spOf S io sp vs H Q E') :
    ∃ t, PSs (cxOf CX0 P w K mg base N qual scope f cdv A outer s H E) pb t ∧ t { nx := fun _ H' => Q .non H', rt := Q } (L2.start N vs) H := by
  obtain ⟨Z, F0, ds, sF, pZ, a, x0, hpre, hpost⟩ := hs
  obtain ⟨hl, hw⟩ := kp x0 ds hpre
  let X := (cxOf CX0 P w K mg base N qual scope f cdv A outer s H E).nox
  have xo : XOk X S G ⟨N, scope, none⟩ := ⟨W, rfl, sc.nd, rfl, fun _ _ _ => rfl, rfl, hr, gd, rfl, fun _ => ⟨rfl, rfl⟩⟩
  obtain ⟨t, p, q⟩ := so_Ss xo body _ h
  refine ⟨t, p.nox, ?_⟩
  have i0 := sr_start sF pZ a N rfl
  have fin : ∀ (F' : Hp) (env : Ev) (σ : L2.St) (H' : Hp) (fr : Bool) (d : D) (v : V), Same F0 F' → SR S Z F' env σ H' → (∀ i ∈ lkOf io, σ[i]? = (L2.start N vs)[i]?) → RRel S Z F' H' σ env (if fr = true then .fr d else .val d) v → outK io env (sp.post x0 fr d) → Q v H' := by
    intro F' env σ H' fr d v s1 i1 lkq rr ok
    unfold outK at ok
    cases qo : outE io env with
    | none => rw [qo] at ok; exact False.elim ok
    | some os =>
      rw [qo] at ok
      have gv : ∀ i v, vs[i]? = some v → (L2.start N vs)[i]? = some (some v) := fun i v h => by
        unfold L2.start
        rw [List.getElem?_append_left (by simpa using (List.getElem?_eq_some_iff.mp h).1), List.getElem?_map, h]; rfl
      have ownv : ∀ j v, io[j]? = some true → vs[j]? = some v → σ[j]? = some (some v) := fun j v h1 h2 => by rw [lkq j (lkOf_mem h1)]; exact gv j v h2
      refine (hpost fr d os ok).2 F' H' v s1 i1.same i1.prot ⟨outE_len qo, fun j e u h1 h2 h3 => ?_⟩ ?_
      · obtain ⟨b, o, g1, g2, g3, g4, g5⟩ := i1.own j e (outE_get qo h1 h2)
        rw [ownv j u h1 h3] at g1; cases g1
        exact ⟨b, o, rfl, g2, g3, g4⟩
      · unfold RV
        cases fr with
        | false => exact rr
        | true =>
          obtain ⟨b, o, rfl, g1, g2, g3, g4, g5⟩ := rr
          refine ⟨b, o, rfl, g1, g2, g3, g4, fun ⟨j, h1, h2⟩ => ?_⟩
          obtain ⟨e, he⟩ : ∃ e, os[j]? = some e := by
            have := (List.getElem?_eq_some_iff.mp h1).1
            exact ⟨_, List.getElem?_eq_getElem (by rw [outE_len qo]; exact this)⟩
          exact g5 j e (outE_get qo h1 he) (ownv j _ h1 h2)
  exact q Z F0 _ _ H _ _ i0 ⟨fun F' env σ H' s1 i1 l ok => fin F' env σ H' false .non .non s1 i1 l rfl ok, fun F' env σ H' fr d v s1 i1 l rr ok => fin F' env σ H' fr d v s1 i1 l rr ok, fun _ _ _ _ _ _ _ z => z, fun _ _ _ _ _ _ _ z => z⟩ hw
/-- a def, by what its parameters are bound to, where no repr is under way -/
def FnB (P : Program) (w : World) (K : PySem.W.Frag) (mg : Str → Option Value) (base : Heap) (k : Nat) (f : Addr) (fd : FuncData) (ps : List Str) (sp : Sp) : Prop :=
  ∀ (A : Around) (outer : List Env) (s : Shared) (H : Hp) (args : Args) (us : List Value) (vs : List V) (Q : VK) (E : XK), Room k A → A.guards = some [] → Env0 P w K mg base A outer s H → BindsTo s fd args (ps.zip us) → Vals vs us → sp vs H Q E → codeAny (model P w) A (.call (.ref f) args) (CR CX0 outer P w H s Q E) s
theorem fn_okD {x qual : Str} {params : Arguments} {pb : List Stmt} {scope : Scope} {dvs : List V} {kws : List (Str × V)} {f : Addr} {fd : FuncData} {N ps : List Str} {io : List Bool} {body : List St} {sp : Spec} {lv : Nat} (F : FunD K x qual params pb scope dvs kws f fd) (sc : FnScope N ps scope) (W : WOk P w K mg base S G)
    (hio : io.length = ps.length) (hlv : lv = G.room + 1) (h : cmpSs G (lkOf io) body ⟨N, scope, none⟩ pb = true) (kp : Keeps G N.length io body sp) : FnB P w K mg base lv f fd ps (spOf S io sp) := by
  subst hlv
  intro A outer s H args us vs Q E hr gd e0 hb r hs
  obtain ⟨oc, od, dV, kV, doc, pm, an, cdv, ct, osl, rfl, hk, hcd, _, _⟩ := F.ex
  have hl : vs.length = ps.length := by
    obtain ⟨Z, F, ds, _, _, a, _⟩ := hs
    rw [a.lv, hio]
  refine StX.run_bnd (G := fun vs2 H2 => vs2 = vs ∧ H2 = H) hk hcd sc hr e0 (fun A2 Ex q2 want => hb _ _ _ _ (want s H vs us e0 Un.refl rfl (fun _ _ z => z) r hl ⟨rfl, rfl⟩)) ?_
  rintro s2 H2 vs2 ⟨rfl, rfl⟩ hr2
  exact body_ok sc W h kp hr2 gd hs
/-- called with all its arguments -/
theorem fn_raw {f : Addr} {fd : FuncData} {ps : List Str} {io : List Bool} {sp : Spec} {lv : Nat} (hio : io.length = ps.length) (F : FnB P w K mg base lv f fd ps (spOf S io sp)) (hb : Binds K fd ps []) : FnG P w K mg base CX0 lv f (spOf S io sp) := by
  intro A outer s H us vs Q E hr gd e0 r hs
  have hl : (us ++ []).length = ps.length := by
    obtain ⟨Z, F, ds, _, _, a, _⟩ := hs
    rw [List.append_nil, ← r.length, a.lv, hio]
  have b := hb s us (e0.mod.kin.keeps fun b o e => (e0.bs b o e).1) hl
  rw [List.append_nil] at b
  exact F A outer s H ⟨us, []⟩ us vs Q E hr gd e0 b r hs
/-- def f(a, .., *v) -/
theorem fn_okS {x qual pv : Str} {params : Arguments} {pb : List Stmt} {scope : Scope} {f : Addr} {fd : FuncData} {N ps : List Str} {io : List Bool} {body : List St} {sp : Spec} {lv : Nat} (F : FunD K x qual params pb scope [] [] f fd) (sc : FnScope N (ps ++ [pv]) scope) (W : WOk P w K mg base S G) (hlv : lv = G.room + 1)
    (h : cmpSs G (lkOf io) body ⟨N, scope, none⟩ pb = true) (kp : Keeps G N.length io body sp)
    (hb : ∀ (kV doc pm : Value) (an : Option Addr) (cdv ct : Value) (us rest : List Value), us.length = ps.length → bindArgs (PySem.W.fnOf x qual params pb scope .none kV doc pm an cdv ct) ⟨us ++ rest, []⟩ = (newTuple rest >>= fun t => pure (ps.zip us ++ [(pv, t)]))) :
    FnG P w K mg base CX0 lv f (spRest ps.length (spOf S io sp)) := by
  subst hlv
  obtain ⟨oc, od, dV, kV, doc, pm, an, cdv, ct, osl, rfl, hk, hcd, hD, _⟩ := F.ex
  rcases hD with ⟨_, rfl⟩ | ⟨e, _⟩
  case inr => exact absurd rfl e
  rintro A outer s H us vs Q E hr gd e0 r ⟨ws, rest, rfl, hl, hz, want⟩
  obtain ⟨u1, u2, rfl, r1, r2⟩ := StX.vals_split r
  have free : H s.heap.objs.size = none := e0.hok.fresh (Nat.le_refl _)
  have l1 : u1.length = ps.length := r1.length.symm.trans hl
  refine StX.run_bnd (G := fun xs H2 => ∃ p, H p = none ∧ xs = ws ++ [V.ref p] ∧ H2 = upd H p (.tup rest)) hk hcd sc hr e0 (fun A2 Ex q2 go => ?_) ?_
  · rw [hb kV doc pm an cdv ct u1 u2 l1]
    refine wpAny_bind (wpAny_newTuple (wpAny_pure ?_) (by rw [← r2.length]; exact hz))
    have fresh : ObjOk P w (upd H s.heap.objs.size (.tup rest)) (s.heap.push ({ cls := .type "tuple", data := .seq u2.toArray } : Obj)) s.heap.objs.size (.tup rest) := ⟨hz, u2, r2, _, Heap.get?_push_size _ rfl, rfl, _, rfl⟩
    have un := StX.un_laid (fs := frs outer) (s := s) (o := ({ cls := .type "tuple", data := .seq u2.toArray } : Obj)) (u := .tup rest) free
    have z := go _ _ (ws ++ [V.ref s.heap.objs.size]) (u1 ++ [Value.ref s.heap.objs.size]) (StX.env0_laid e0 fresh) un rfl (fun _ _ z => z.elim) (r1.append (.cons rfl .nil)) (by simp [hl]) ⟨_, free, rfl, rfl⟩
    rw [List.zip_append l1.symm] at z
    exact z
  · rintro s2 H2 vs2 ⟨p, hp, rfl, rfl⟩ hr2
    exact body_ok sc W h kp hr2 gd (want p hp)
/-- the table, from the first def on: def f's text may call those ahead of it -/
theorem table_ok {fi : List Fi} {sp : Nat → Spec} (hlv : ∀ (f : Nat) (i : Fi), fi[f]? = some i → i.lv = 2 * f + 2) (h : ∀ (f : Nat) (i : Fi), fi[f]? = some i → (∀ (g : Nat) (j : Fi), fi[g]? = some j → j.lv ≤ 2 * f + 1 → FT P w K mg base S (sp g) j) → FT P w K mg base S (sp f) i) :
    ∀ (f : Nat) (i : Fi), fi[f]? = some i → FT P w K mg base S (sp f) i := by
  intro f
  induction f using Nat.strongRecOn with
  | ind f ih =>
    intro i hi
    refine h f i hi fun g j hj hl => ih g ?_ j hj
    have := hlv g j hj
    omega
end
end PV

/-! PV: calls by keywords; the world from the head's words. -/
namespace PV
open PySem L2
/-! ### keywords -/
/-- the parameters' values, taken from what is written by places p -/
def perm {α : Type} (d : α) (p : List Nat) (xs : List α) : List α := p.map fun i => xs.getD i d
theorem perm_get {α : Type} {d : α} {p : List Nat} {xs : List α} {j : Nat} {y : α} (h : (perm d p xs)[j]? = some y) : ∃ i, p[j]? = some i ∧ xs.getD i d = y := by
  unfold perm at h
  rw [List.getElem?_map] at h
  cases e : p[j]? with
  | none => rw [e] at h; cases h
  | some i => rw [e] at h; cases h; exact ⟨i, rfl, rfl⟩
theorem vals_perm {p : List Nat} : ∀ {vs : List V} {us : List Value}, Vals vs us → (∀ i ∈ p, i < vs.length) → Vals (perm V.non p vs) (perm Value.none p us) := by
  induction p with
  | nil => intro vs us _ _; exact .nil
  | cons i p ih =>
    intro vs us r h
    refine .cons ?_ (ih r fun j hj => h j (List.mem_cons_of_mem _ hj))
    have hi := h i List.mem_cons_self
    have hu : i < us.length := by rw [← r.length]; exact hi
    show RelV (vs.getD i V.non) (us.getD i Value.none)
    rw [List.getD_eq_getElem?_getD, List.getD_eq_getElem?_getD]
    clear ih h
    induction r generalizing i with
    | nil => exact absurd hi (Nat.not_lt_zero _)
    | cons r1 r2 ih2 =>
      cases i with
      | zero => exact r1
      | succ i => exact ih2 i (Nat.lt_of_succ_lt_succ hi) (Nat.lt_of_succ_lt_succ hu)
section
variable {P : Program} {w : World} {K : PySem.W.Frag} {mg : Str → Option Value} {base : Heap} {S : Sg} {G : Gt}
theorem allF {io : List Bool} (h : io.all (!·) = true) {j : Nat} (hj : io[j]? = some true) : False := by
  have := List.all_eq_true.mp h true (List.mem_of_getElem? hj)
  cases this
theorem spOf_perm {io io' : List Bool} {p : List Nat} {α : Type} {args args' : α → List D} {pre : α → Prop} {res : α → D} (hio : io.all (!·) = true) (hio' : io'.all (!·) = true) (hl : p.length = io.length) (hp : ∀ i ∈ p, i < io'.length) (ha : ∀ x, args x = perm D.non p (args' x))
    {vs : List V} {H : Hp} {Q : VK} {E : XK} (h : spOf S io' (dspec args' pre res) vs H Q E) : spOf S io (dspec args pre res) (perm V.non p vs) H Q E := by
  obtain ⟨Z, F, ds, sF, pZ, a, x, ⟨rfl, hx⟩, hq⟩ := h
  have lk : ∀ {α : Type} (d : α) (xs : List α) (i : Nat), i < xs.length → xs[i]? = some (xs.getD i d) := fun d xs i hi => by
    rw [List.getD_eq_getElem?_getD, List.getElem?_eq_getElem hi]; rfl
  refine ⟨Z, F, args x, sF, pZ, ⟨by rw [show args x = perm D.non p (args' x) from ha x]; unfold perm; rw [List.length_map, hl], by unfold perm; rw [List.length_map, hl], fun j d v h1 h2 h3 => ?_, fun j d v h1 => (allF hio h1).elim, fun j k b h1 => (allF hio h1).elim⟩, x, ⟨rfl, hx⟩, ?_⟩
  · rw [show args x = perm D.non p (args' x) from ha x] at h2
    obtain ⟨i, e1, rfl⟩ := perm_get h2
    obtain ⟨i', e2, rfl⟩ := perm_get h3
    rw [e1] at e2; cases e2
    have hi := hp i (List.mem_of_getElem? e1)
    have hf : io'[i]? = some false := by
      rw [List.getElem?_eq_getElem hi]
      have := List.all_eq_true.mp hio' _ (List.getElem_mem hi)
      cases e : io'[i] with
      | true => rw [e] at this; cases this
      | false => rfl
    exact a.val i _ _ hf (lk _ _ _ (by rw [a.ld]; exact hi)) (lk _ _ _ (by rw [a.lv]; exact hi))
  · rintro fr d o ⟨rfl, rfl, rfl⟩
    obtain ⟨q1, q2⟩ := hq false (res x) _ ⟨rfl, rfl, rfl⟩
    refine ⟨by rw [List.length_map, show args x = perm D.non p (args' x) from ha x]; unfold perm; rw [List.length_map, hl], fun F' H' v s1 s2 pZ' ao rv => q2 F' H' v s1 s2 pZ' ⟨q1, fun j _ _ h1 => (allF hio' h1).elim⟩ rv⟩
theorem fnK_ok {k n : Nat} {f : Addr} {fd : FuncData} {ps ks : List Str} {io io' : List Bool} {p : List Nat} {α : Type} {args args' : α → List D} {pre : α → Prop} {res : α → D} (F : FnB P w K mg base k f fd ps (spOf S io (dspec args pre res)))
    (hb : ∀ (s : Shared) (us ws : List Value), us.length = n → ws.length = ks.length → BindsTo s fd ⟨us, ks.zip ws⟩ (ps.zip (perm Value.none p (us ++ ws))))
    (hio : io.all (!·) = true) (hio' : io'.all (!·) = true) (hl : p.length = io.length) (hn : n + ks.length = io'.length) (hp : ∀ i ∈ p, i < io'.length) (ha : ∀ x, args x = perm D.non p (args' x)) : FnRK P w K mg base CX0 k f n ks (spOf S io' (dspec args' pre res)) := by
  intro A outer s H us ws vs zs Q E hr gd e0 r1 r2 l1 l2 h
  have r := r1.append r2
  refine F A outer s H ⟨us, ks.zip ws⟩ _ _ Q E hr gd e0 (hb s us ws l1 l2) (vals_perm r fun i hi => ?_) (spOf_perm hio hio' hl hp ha h)
  rw [List.length_append, r1.length, r2.length, l1, l2, hn]
  exact hp i hi
/-! ### the world -/
theorem fDun_ok {K : PySem.W.Frag} {op : BOp} {x : Str} (h : fDun op x K = true) : Dun K op (He.ga K x) (He.ma K (He.ga K x) (dunN op)) := by
  unfold fDun at h
  simp only [Bool.and_eq_true] at h
  exact ⟨He.meth_ok h.1, h.2⟩
theorem fStrm_ok {K : PySem.W.Frag} {x : Str} (h : fStrm x K = true) : Meth K (He.ga K x) "__str__" (He.ma K (He.ga K x) "__str__") ∧ PySem.W.findIn K (.ref (He.ga K x)) "__format__" = some (some (.builtin "object.__format__")) ∧ PySem.W.mroIn K (He.ga K x) (.type "object") = some true := by
  unfold fStrm at h
  simp only [Bool.and_eq_true, decide_eq_true_eq] at h
  exact ⟨He.meth_ok h.1, He.eqO_ok h.2.1, h.2.2⟩
theorem wd_ok {ws : List Wd} {fn : List He5.DefA} {ts : List (Str × List Str)} (c : SaysP (ws.map Wd.ok) fn ts w K) {d : Wd} (h : ws.contains d = true) : d.ok K = true := by
  obtain ⟨i, hi, e⟩ := List.getElem_of_mem (List.contains_iff_mem.mp h)
  exact c.fact i (f := d.ok) (by rw [List.getElem?_map, List.getElem?_eq_getElem hi, e]; rfl)
/-- isinstance of own classes -/
def isiN (n c : Nat) (t : Tn) : Option Bool := cond (decide (c < n)) (match t with
  | .own c' => cond (decide (c' < n)) (some (decide (c = c'))) none
  | _ => some false) none
def sgOf (K : PySem.W.Frag) (cn : List Str) (lays : List (List Str)) : Sg := { K := K, ca := fun c => He.ga K (cn.getD c ""), lay := fun c => lays.getD c [] }
def clsC (ws : List Wd) (cn : List Str) (x : Str) (l : List Str) : Bool := ws.contains (.glo x) && ws.contains (.cls x) && ws.contains (.ins x) && ws.contains (.kitB x) && ws.contains (.kitC x) && decide l.Nodup && l.all (fun y => ws.contains (.noat x y))
theorem intsD_eq : ∀ {ds : List D} {ns : List Int}, intsD ds = some ns → ds = ns.map D.int
  | [], ns, h => by cases h; rfl
  | d :: ds, ns, h => by
    cases d <;> first
      | cases h
      | skip
    rename_i i
    have h : (intsD ds).map (i :: ·) = some ns := h
    cases e : intsD ds with
    | none => rw [e] at h; cases h
    | some ms => rw [e] at h; cases h; rw [intsD_eq e]; rfl
def glC (ws : List Wd) : Str × D → Bool
  | (x, .int i) => ws.contains (.int x i)
  | (x, .str z) => ws.contains (.str x z)
  | (x, .tup ds) => match intsD ds with | some ns => ws.contains (.tupi x ns) | none => false
  | _ => false
def wordsC (ws : List Wd) (cn : List Str) (lays : List (List Str)) (gl : List (Str × D)) (tb : List (Str × List (Str × Int))) (nm : List Str) : Bool :=
  btNames.all (fun x => ws.contains (.free x)) && (List.range cn.length).all (fun c => clsC ws cn (cn.getD c "") (lays.getD c []) && (List.range cn.length).all fun e => ws.contains (.kit (cn.getD c "") (cn.getD e "") (decide (c = e)))) && gl.all (glC ws) && (tb.all (fun t => ws.contains (.tab t.1 t.2)) && nm.all fun x => ws.contains (.glo x))
theorem getD_of {α : Type} {xs : List α} {i : Nat} {x d : α} (h : xs[i]? = some x) : xs.getD i d = x := by rw [List.getD_eq_getElem?_getD, h]; rfl
theorem wok_of {ws : List Wd} {fn : List He5.DefA} {cn : List Str} {lays : List (List Str)} {gl : List (Str × D)} {fi : List Fi} {sp : Nat → Spec} {r : Nat} {tb : List (Str × List (Str × Int))} {nm : List Str} (c : SaysP (ws.map Wd.ok) fn (tb.map fun t => (t.1, t.2.map (·.1))) w K) (h : wordsC ws cn lays gl tb nm = true) (X : K.In base) (Gm : base.Ns mainGlobals mg)
    (hfi : ∀ (f : Nat) (i : Fi), fi[f]? = some i → i.lv ≤ r → FT P w K mg base (sgOf K cn lays) (sp f) i) : WOk P w K mg base (sgOf K cn lays) { lay := lays, cn := cn, fi := fi, gl := gl, room := r, sp := sp, isi := isiN cn.length, tb := tb, nm := nm } := by
  unfold wordsC at h
  simp only [Bool.and_eq_true] at h
  obtain ⟨⟨⟨h1, h2⟩, h3⟩, h4, h5⟩ := h
  have one : ∀ (c : Nat), c < cn.length → clsC ws cn (cn.getD c "") (lays.getD c []) = true ∧ ∀ e, e < cn.length → ws.contains (.kit (cn.getD c "") (cn.getD e "") (decide (c = e))) = true := fun k hk => by
    have := List.all_eq_true.mp h2 k (List.mem_range.mpr hk)
    simp only [Bool.and_eq_true] at this
    exact ⟨this.1, fun e he => List.all_eq_true.mp this.2 e (List.mem_range.mpr he)⟩
  refine ⟨rfl, fun c => rfl, hfi, fun k x hk => ?_, fun g x d hg => ?_, fun x hx => ?_, fun k t b hb => ?_, fun g x kvs hg => ?_, fun x hx => ⟨_, He.glo_ok X Gm (wd_ok c (d := .glo x) (List.all_eq_true.mp h5 x hx))⟩, fun k x hk n hn => ?_⟩
  · obtain ⟨o1, _⟩ := one k (List.getElem?_eq_some_iff.mp hk).1
    rw [getD_of hk] at o1
    unfold clsC at o1
    simp only [Bool.and_eq_true, decide_eq_true_eq] at o1
    obtain ⟨⟨⟨⟨⟨⟨a1, a2⟩, a3⟩, a4⟩, a5⟩, a6⟩, a7⟩ := o1
    show Cls K (He.ga K (cn.getD k "")) ∧ mg x = some (.ref (He.ga K (cn.getD k ""))) ∧ _
    rw [getD_of hk]
    refine ⟨He.cls_ok (wd_ok c (d := .cls x) a2), He.glo_ok X Gm (wd_ok c (d := .glo x) a1), a6, fun j y hy => ?_⟩
    have := List.all_eq_true.mp a7 y (List.mem_of_getElem? hy)
    show NoAttr K (He.ga K (cn.getD k "")) y
    rw [getD_of hk]
    exact He.noat_ok (wd_ok c (d := .noat x y) this)
  · have := List.all_eq_true.mp h3 _ (List.mem_of_getElem? hg)
    cases d with
    | int i =>
      obtain ⟨t, e⟩ := He.int_ok X Gm (wd_ok c (d := .int x i) this)
      exact ⟨_, .int i, e, ⟨t, rfl⟩, rfl⟩
    | str z =>
      obtain ⟨t, e⟩ := He.str_ok X Gm (wd_ok c (d := .str x z) this)
      exact ⟨_, .str z, e, ⟨t, rfl⟩, rfl⟩
    | tup ds =>
      have this : (match intsD ds with | some ns => ws.contains (.tupi x ns) | none => false) = true := this
      split at this
      · rename_i ns _
        rename_i e
        have r := fTup_ok (S := sgOf K cn lays) (F := fun _ => none) (wd_ok c (d := .tupi x ns) this)
        rw [← intsD_eq e] at r
        exact ⟨_, .ref _, He.glo_ok X Gm r.1, rfl, r.2⟩
      · cases this
    | _ => cases this
  · exact He.free_ok X Gm (wd_ok c (d := .free x) (List.all_eq_true.mp h1 x hx))
  · have hb : isiN cn.length k t = some b := hb
    unfold isiN at hb
    by_cases hk : k < cn.length
    · rw [decide_eq_true hk] at hb
      obtain ⟨o1, o2⟩ := one k hk
      unfold clsC at o1
      simp only [Bool.and_eq_true, decide_eq_true_eq] at o1
      obtain ⟨⟨⟨⟨⟨⟨a1, a2⟩, a3⟩, a4⟩, a5⟩, a6⟩, a7⟩ := o1
      refine ⟨fIns_ok (wd_ok c a2) (wd_ok c a3), ?_⟩
      have kc := fun n hn => of_decide_eq_true (List.all_eq_true.mp (show (["str", "int", "bool", "tuple", "list", "dict"].all fun n => decide (PySem.W.kitOne K (.ref (He.ga K (cn.getD k ""))) (.type n) = some false)) = true from wd_ok c a5) n hn)
      cases t with
      | own e =>
        have hb : cond (decide (e < cn.length)) (some (decide (k = e))) none = some b := hb
        by_cases he : e < cn.length
        · rw [decide_eq_true he] at hb
          cases hb
          exact fKit_ok (wd_ok c (o2 e he))
        · rw [decide_eq_false he] at hb; cases hb
      | str => cases hb; exact kc "str" (by decide)
      | int => cases hb; exact kc "int" (by decide)
      | bool => cases hb; exact kc "bool" (by decide)
      | tup => cases hb; exact kc "tuple" (by decide)
      | lst => cases hb; exact kc "list" (by decide)
      | dct => cases hb; exact kc "dict" (by decide)
    · rw [decide_eq_false hk] at hb; cases hb
  · have r := fTab_ok (wd_ok c (d := .tab x kvs) (List.all_eq_true.mp h4 _ (List.mem_of_getElem? hg)))
    obtain ⟨es, n, D⟩ := c.tab g (t := (x, kvs.map (·.1))) (by rw [List.getElem?_map, hg]; rfl)
    exact ⟨_, es, n, He.glo_ok X Gm r.1, D, r.2⟩
  · obtain ⟨o1, _⟩ := one k (List.getElem?_eq_some_iff.mp hk).1
    unfold clsC at o1
    simp only [Bool.and_eq_true, decide_eq_true_eq] at o1
    obtain ⟨⟨⟨⟨⟨⟨a1, a2⟩, a3⟩, a4⟩, a5⟩, a6⟩, a7⟩ := o1
    exact fKitB_ok (wd_ok c (d := .kitB _) a4) n hn
end
end PV

/-! PV: the end. -/
namespace PV
open PySem L2
/-- no promise: nobody may call it -/
def spNo : Spec := ⟨Unit, fun _ _ => False, fun _ _ _ _ => True⟩
theorem fnG_no {P : Program} {w : World} {K : PySem.W.Frag} {mg : Str → Option Value} {base : Heap} {S : Sg} {lv : Nat} {a : Addr} {io : List Bool} : FnG P w K mg base CX0 lv a (spOf S io spNo) := fun _ _ _ _ _ _ _ _ _ _ _ _ hs => by
  obtain ⟨_, _, _, _, _, _, _, h, _⟩ := hs
  exact h.elim
theorem keeps_no {G : Gt} {n : Nat} {io : List Bool} {body : List St} : Keeps G n io body spNo := fun _ _ h => h.elim
def lvB (fi : List Fi) : Nat → Bool
  | 0 => true
  | n + 1 => lvB fi n && (match fi[n]? with | some i => Nat.beq i.lv (2 * n + 2) | none => true)
theorem lv_ok {fi : List Fi} (h : lvB fi fi.length = true) (f : Nat) (i : Fi) (hi : fi[f]? = some i) : i.lv = 2 * f + 2 := by
  have key : ∀ n, lvB fi n = true → f < n → i.lv = 2 * f + 2 := by
    intro n
    induction n with
    | zero => intro _ h; omega
    | succ n ih =>
      intro h1 h2
      have h1 : (lvB fi n && (match fi[n]? with | some i => Nat.beq i.lv (2 * n + 2) | none => true)) = true := h1
      rw [Bool.and_eq_true] at h1
      by_cases e : f = n
      · subst e
        have h3 := h1.2
        rw [hi] at h3
        exact Nat.eq_of_beq_eq_true h3
      · exact ih h1.1 (by omega)
  exact key _ h (List.getElem?_eq_some_iff.mp hi).1
section
variable {P : Program} {w : World} {K : PySem.W.Frag} {mg : Str → Option Value} {base : Heap} {S : Sg} {G : Gt} {x qual : Str} {params : Arguments} {body : List Stmt} {scope : Scope} {dvs : List V} {kws : List (Str × V)} {f : Addr} {fd : FuncData} {ps : List Str}
/-- all parameters are written, though some have defaults -/
theorem bindsD {n : Nat} (F : FunD K x qual params body scope dvs kws f fd) (hd : dvs ≠ []) (hn : n = ps.length)
    (h : ∀ (T : Addr) (kV doc pm : Value) (an : Option Addr) (cdv ct : Value) (us its : List Value), us.length = n → its.length = dvs.length →
      ∃ k, bindArgs (PySem.W.fnOf x qual params body scope (.ref T) kV doc pm an cdv ct) ⟨us, []⟩ = seqItems? (.ref T) >>= k ∧ k (some its.toArray) = pure (ps.zip us)) : Binds K fd ps [] := by
  obtain ⟨ds, hv, hb⟩ := F.binds1 (ps := ps) n dvs.length hd (by omega) fun T kV doc pm an cdv ct us its h1 h2 => by
    obtain ⟨k, e1, e2⟩ := h T kV doc pm an cdv ct us its h1 h2
    refine ⟨k, e1, ?_⟩
    rw [e2, ← h2, List.drop_length, List.append_nil]
  rw [List.drop_length] at hv
  cases hv
  exact hb
theorem bindsK {n : Nat} {ks : List Str} {g : List Value → List Value → List Value} (F : FunD K x qual params body scope [] kws f fd)
    (h : ∀ (kV doc pm : Value) (an : Option Addr) (cdv ct : Value) (us ws : List Value), us.length = n → ws.length = ks.length → bindArgs (PySem.W.fnOf x qual params body scope .none kV doc pm an cdv ct) ⟨us, ks.zip ws⟩ = pure (ps.zip (g us ws)))
    (s : Shared) (us ws : List Value) (l1 : us.length = n) (l2 : ws.length = ks.length) : BindsTo s fd ⟨us, ks.zip ws⟩ (ps.zip (g us ws)) := by
  obtain ⟨oc, od, dV, kV, doc, pm, an, cdv, ct, osl, rfl, lk, hcd, hD, hK⟩ := F.ex
  rcases hD with ⟨_, rfl⟩ | ⟨e, _⟩
  · exact .of_eq (h kV doc pm an cdv ct us ws l1 l2)
  · exact absurd rfl e
/-- a law's promise: True -/
def lawSp : Spec := dspec (fun ns : List Int => [.rol (ns.map .int)]) (fun ns => ns.length ≤ 63) (fun _ => .bl true)
/-- .. of a script whose numbers have a million bits at most -/
def lawSpB : Spec := dspec (fun ns : List Int => [.rol (ns.map .int)]) (fun ns => ns.length ≤ 63 ∧ ∀ z ∈ ns, Builtin.Int.intBits z ≤ 1048576) (fun _ => .bl true)
theorem reps_ints {S : Sg} {F : Hp} : ∀ ns : List Int, Reps S F (ns.map .int) (ns.map V.int)
  | [] => rfl
  | n :: ns => ⟨_, _, rfl, rfl, reps_ints ns⟩
theorem law_sp {S : Sg} {H : Hp} {a : Addr} {ns : List Int} (h : SqL S.K H a (ns.map V.int)) (hl : ns.length ≤ 63) : spOf S [false] lawSp [.ref a] H (fun v _ => v = .bl true) fun _ _ _ => False := by
  refine ⟨fun _ => none, H, [.rol (ns.map .int)], Same.refl H, fun _ _ z => (by cases z), ⟨rfl, rfl, fun j d v h1 h2 h3 => ?_, fun j d v h1 => ?_, fun j k b h1 => ?_⟩, ns, ⟨rfl, hl⟩, ?_⟩
  · cases j with
    | zero =>
      cases h2; cases h3
      exact ⟨a, _, rfl, h, reps_ints ns⟩
    | succ j => cases h2
  · cases j with
    | zero => cases h1
    | succ j => cases h1
  · cases j with
    | zero => cases h1
    | succ j => cases h1
  · rintro fr d o ⟨rfl, rfl, rfl⟩
    exact ⟨rfl, fun F' H' v _ _ _ _ r => r⟩
theorem law_spB {S : Sg} {H : Hp} {a : Addr} {ns : List Int} (h : SqL S.K H a (ns.map V.int)) (hl : ns.length ≤ 63) (hb : ∀ z ∈ ns, Builtin.Int.intBits z ≤ 1048576) : spOf S [false] lawSpB [.ref a] H (fun v _ => v = .bl true) fun _ _ _ => False := by
  refine ⟨fun _ => none, H, [.rol (ns.map .int)], Same.refl H, fun _ _ z => (by cases z), ⟨rfl, rfl, fun j d v h1 h2 h3 => ?_, fun j d v h1 => ?_, fun j k b h1 => ?_⟩, ns, ⟨rfl, hl, hb⟩, ?_⟩
  · cases j with
    | zero =>
      cases h2; cases h3
      exact ⟨a, _, rfl, h, reps_ints ns⟩
    | succ j => cases h2
  · cases j with
    | zero => cases h1
    | succ j => cases h1
  · cases j with
    | zero => cases h1
    | succ j => cases h1
  · rintro fr d o ⟨rfl, rfl, rfl⟩
    exact ⟨rfl, fun F' H' v _ _ _ _ r => r⟩
end
/-! ### the law's call -/
section
open PySem.Spec PyProof.Rows
/-- the law's def, called with a script, from what a def keeps -/
theorem law_callG {P : Program} {w : World} {K : PySem.W.Frag} {mg bt : Str → Option Value} {k : Nat} {f a : Addr} {fd : FuncData} {x : Str} {sp : Sp} {st : Shared} {items : List Value} {ns : List Int} (hK : K.In st.heap) (hm : st.heap.Ns mainGlobals mg) (hb : st.heap.Ns builtinsNs bt) (hbt : ∀ y : Str, y ≠ "__name__" → bt y = bootBuiltins y) (nl : st.heap.NoLimit) (hg : st.gens = #[])
    (obj : st.heap.get? a = some { cls := .type "list", data := .seq items.toArray }) (ia : PyProof.Rows.IntsAre items ns) (hl : ns.length ≤ sizeLine) (hr : Room k callerA) (F : ∀ b : Heap, K.In b → b.Ns mainGlobals mg → FnB P w K mg b k f fd [x] sp) (bi : ∀ (s : Shared) (u : Value), BindsTo s fd ⟨[u], []⟩ [(x, u)])
    (want : ∀ H : Hp, Only H → SqL K H a (ns.map V.int) → sp [.ref a] H (fun v _ => v = .bl true) fun _ _ _ => False) :
    codeAny (model P w) callerA (.call (.ref f) ⟨[.ref a], []⟩) (fun z s2 => z = .ok (.ret (.bool true)) ∧ OldK st.heap s2.heap ∧ s2.os = st.os ∧ AllBare s2.gens) st := by
  have rv := vals_ints ia
  have li := ia.length
  have main : ∀ H : Hp, Only H → SqL K H a (ns.map V.int) → HOk P w H st.heap → (∀ c, H c ≠ none → c = a) → (H a ≠ none → K.lookup a = none) →
      codeAny (model P w) callerA (.call (.ref f) ⟨[.ref a], []⟩) (fun z s2 => z = .ok (.ret (.bool true)) ∧ OldK st.heap s2.heap ∧ s2.os = st.os ∧ AllBare s2.gens) st := by
    intro H only seq ok just free
    have dictFree : ∀ {c : Addr} {o : Obj} {es : Array DictEntry} {ep : Nat}, st.heap.get? c = some o → o.data = .dict es ep → H c = none := by
      intro c o es ep e d
      refine Classical.byContradiction fun nz => ?_
      cases just c nz
      rw [obj] at e; cases e
      exact absurd (show Data.seq items.toArray _ = Data.dict es ep from d) (fun z => by cases z)
    have hidNs : ∀ {c : Addr} {m : Str → Option Value}, st.heap.Ns c m → (hidT st.heap H).Ns c m := by
      rintro c m ⟨o, es, ep, e, d, r⟩
      exact ⟨o, es, ep, hidT_get e (dictFree e d), d, r⟩
    have hidK : K.In (hidT st.heap H) := by
      intro c o e
      refine hidT_get (hK c o e) (Classical.byContradiction fun nz => ?_)
      cases just c nz
      rw [free nz] at e; cases e
    obtain ⟨ml, nl1, nl2⟩ := nl
    have mod : Mod K mg (hidT st.heap H) := ⟨hidK, hidNs hm, ⟨bt, hidNs hb, hbt⟩, ml, hidNs nl1, nl2⟩
    have env : Env0 P w K mg (hidT st.heap H) callerA [] st H := ⟨rfl, mod, fun c o e => of_hidT e, Nat.le_of_eq (hidT_size _ _), trivial, fun c hc => (by cases (show c ∈ ([] : List Addr) from hc)), ok, .of_eq hg⟩
    refine codeAny_mono (F _ hidK (hidNs hm) callerA [] st H ⟨[.ref a], []⟩ [.ref a] [.ref a] _ _ hr rfl env (bi st (.ref a)) (.cons rfl .nil) (want H only seq)) ?_
    rintro (e | fl) s2 hq
    · exact hq.elim
    cases fl with
    | ret u =>
      obtain ⟨v, H2, os, bare, un, ok2, rel, rfl⟩ := hq
      obtain rfl : u = Value.bool true := rel
      refine ⟨rfl, OldK.of_keep fun c o e => ?_, os, bare⟩
      cases hc : H c with
      | none => exact un.keep c o e hc (fun z => (by cases (show c ∈ ([] : List Addr) from z))) (by simp)
      | some u =>
        rcases only c with z | ⟨oc, xs, z⟩
        · rw [hc] at z; cases z
        · obtain ⟨g1, _⟩ := ok c _ z
          obtain ⟨g2, _⟩ := ok2 c _ (un.frzs c oc _ z)
          rw [e] at g1; cases g1
          exact g2
    | _ => exact hq.elim
  cases hk : K.lookup a with
  | some o =>
    have e := hK a o hk
    rw [obj] at e; cases e
    refine main (fun _ => none) (fun _ => .inl rfl) (.inr ⟨_, items.toArray, _, hk, rfl, rfl, rfl, by rw [List.size_toArray, li]; exact hl, by simpa using rv⟩) (fun c u z => ?_) (fun c z => absurd rfl z) fun z => absurd rfl z
    cases (show (none : Option HO) = some u from z)
  | none =>
    let ho : HO := .frz { cls := .type "list", data := .seq items.toArray } (.lst (ns.map V.int))
    have at_a : ∀ c u, (if c = a then some ho else none) = some u → c = a ∧ ho = u := by
      intro c u z
      by_cases e : c = a
      · rw [if_pos e] at z; exact ⟨e, Option.some.inj z⟩
      · rw [if_neg e] at z; cases z
    refine main (fun c => if c = a then some ho else none) (fun c => ?_) (.inl (.inr ⟨_, if_pos rfl⟩)) (fun c u z => ?_) (fun c z => ?_) fun _ => hk
    · by_cases e : c = a
      · exact .inr ⟨_, _, if_pos e⟩
      · exact .inl (if_neg e)
    · obtain ⟨rfl, rfl⟩ := at_a c u z
      exact ⟨obj, by rw [List.length_map]; exact hl, items, _, rv, obj⟩
    · exact Classical.byContradiction fun ne => z (if_neg ne)
/-- a law over a head: the written part, the law's def, its promise -/
theorem walk_ofG {l : PySem.W.OpenLaw} {n k : Nat} {q : Program} {loose : List Str} {XP : (Str → Option Value) → Heap → Prop} {YP : World → Heap → Prop} {d : DefRec} {x : Str} (hn : l.most = some n) (h2 : n ≤ sizeLine) (hd : d.params.defaults = []) (hr : Room k callerA)
    (F : ∀ (w : World) (mg : Str → Option Value) (f : Addr) (h : Heap), YP w h → h.Ns mainGlobals mg → mg d.name = some (.ref f) →
      ∃ (K : PySem.W.Frag) (fd : FuncData) (sp : Sp), K.In h ∧ (∀ (s : Shared) (u : Value), BindsTo s fd ⟨[u], []⟩ [(x, u)]) ∧ (∀ (H : Hp) (a : Addr) (ns : List Int), ns.length ≤ n → (∀ z ∈ ns, Builtin.Int.intBits z ≤ 1048576) → Only H → SqL K H a (ns.map V.int) → sp [.ref a] H (fun v _ => v = .bl true) fun _ _ _ => False) ∧
        ∀ b : Heap, K.In b → b.Ns mainGlobals mg → FnB l.prog w K mg b k f fd [x] sp) : PySem.W.WalkO q loose XP YP l.row.toRowW d [] (fun f vs => PySem.call f vs) := by
  refine Att.attach_callB hn hd ?_
  intro w s0 s1 mg bt f o pm cd doc a items ns G Y ho hdat hcd hmg hobj hints hlen hbits hg
  obtain ⟨K, fd, sp, hK, hb, hs, hF⟩ := F w mg f _ Y G.T.g hmg
  exact law_callG hK G.T.g G.T.b G.T.builtins G.T.nolimit hg hobj hints (Nat.le_trans hlen h2) hr hF hb fun H only seq => hs H a ns hlen hbits only seq
end
end PV

/-! PV: promises with more than one answer; bounds of integers; steps. -/
namespace PV
open PySem L2
/-- from arguments some y with R x y; then an answer and what the changed arguments hold -/
def nspec {α β : Type} (args : α → List D) (pre : α → Prop) (R : α → β → Prop) (fresh : Bool) (res : α → β → D) (outs : α → β → List D) : PV.Spec := ⟨α, fun x ds => ds = args x ∧ pre x, fun x fr d o => ∃ y, R x y ∧ fr = fresh ∧ d = res x y ∧ o = outs x y⟩
theorem callK_n {G : Gt} {f : Nat} {i : Fi} {α β : Type} {args : α → List D} {pre : α → Prop} {R : α → β → Prop} {fresh : Bool} {res : α → β → D} {outs : α → β → List D} {rs : List RR} {env : Ev} {Q : RR → Ev → Prop} (x : α) (hi : G.fi[f]? = some i) (hs : G.sp f = nspec args pre R fresh res outs) (ho : okO env i.io rs [] = true) (hrd : rdLs env rs = some (args x)) (hl : ∀ y, (outs x y).length = i.io.length)
    (hb : borO env i.io rs = true → ∀ y, fresh = false ∧ flatD (res x y) = true ∧ flatO i.io (outs x y) = true) (hp : pre x) (k : ∀ y, R x y → Q (if fresh then .fr (res x y) else .val (res x y)) (putO i.io rs (outs x y) env)) : callK G f rs env Q := by
  unfold callK
  rw [hi, hs]
  refine ⟨ho, ?_⟩
  unfold rdKs
  rw [hrd]
  refine ⟨x, ⟨rfl, hp⟩, fun fr d o ⟨y, hy, e1, e2, e3⟩ => ?_⟩
  subst e1 e2 e3
  exact ⟨hl y, fun z => hb z y, k y hy⟩
theorem keeps_n {G : Gt} {n : Nat} {io : List Bool} {body : List PV.St} {α β : Type} {args : α → List D} {pre : α → Prop} {R : α → β → Prop} {fresh : Bool} {res : α → β → D} {outs : α → β → List D} (h : ∀ x, pre x → (args x).length = io.length ∧
    wpSs G (lkOf io) body { nx := fun e => outK io e fun o => ∃ y, R x y ∧ false = fresh ∧ D.non = res x y ∧ o = outs x y, rt := fun fr d e => outK io e fun o => ∃ y, R x y ∧ fr = fresh ∧ d = res x y ∧ o = outs x y, bk := fun _ => False, ct := fun _ => False } (startE n io (args x))) : Keeps G n io body (nspec args pre R fresh res outs) := by
  rintro x ds ⟨rfl, hp⟩
  exact h x hp
/-- a caller's step, the rest ahead of what is asked -/
theorem callK_d2 {G : Gt} {f : Nat} {i : Fi} {α : Type} {args : α → List D} {pre : α → Prop} {res : α → D} {rs : List RR} {env : Ev} {Q : RR → Ev → Prop} (x : α) (hi : G.fi[f]? = some i) (hs : G.sp f = dspec args pre res) (hrs : rs = (args x).map .val) (hio : i.io.all (!·) = true) (hl : i.io.length = (args x).length)
    (k : Q (.val (res x)) env) (hp : pre x) : callK G f rs env Q := callK_d x hi hs hrs hio hl hp k
/-! ### bounds -/
def Bd (k : Nat) (x : Int) : Prop := x.natAbs < 2 ^ k
theorem Bd.mono {k l : Nat} {x : Int} (h : Bd k x) (e : k ≤ l) : Bd l x := Nat.lt_of_lt_of_le h (Nat.pow_le_pow_right (by decide) e)
theorem Bd.add {k : Nat} {x y : Int} (h : Bd k x) (h' : Bd k y) : Bd (k + 1) (x + y) := by
  unfold Bd at *
  have := Int.natAbs_add_le x y
  rw [Nat.pow_succ]; omega
theorem Bd.sub {k : Nat} {x y : Int} (h : Bd k x) (h' : Bd k y) : Bd (k + 1) (x - y) := by
  unfold Bd at *
  have := Int.natAbs_sub_le x y
  rw [Nat.pow_succ]; omega
theorem Bd.mul {k l : Nat} {x y : Int} (h : Bd k x) (h' : Bd l y) : Bd (k + l) (x * y) := by
  unfold Bd at *
  rw [Int.natAbs_mul, Nat.pow_add]
  exact Nat.mul_lt_mul_of_lt_of_lt h h'
theorem Bd.log {k : Nat} {x : Int} (h : Bd (k + 1) x) : x.natAbs.log2 ≤ k := by
  by_cases z : x.natAbs = 0
  · rw [z]; simp
  · exact Nat.le_of_lt_succ ((Nat.log2_lt z).mpr h)
theorem Bd.mulOk {k l : Nat} {x y : Int} (h : Bd k x) (h' : Bd l y) (e : k + l < 100000000) : x.natAbs.log2 + y.natAbs.log2 < 100000000 := by
  have a := Bd.log (h.mono (Nat.le_succ k))
  have b := Bd.log (h'.mono (Nat.le_succ l))
  omega
theorem Bd.divOk {k : Nat} {x : Int} (h : Bd k x) (e : k < 9000) : x.natAbs.log2 < 9000 := by
  have a := Bd.log (h.mono (Nat.le_succ k))
  omega
theorem Bd.strOk {k : Nat} {x : Int} (h : Bd k x) (e : k < 1920) : x.natAbs.log2 < 1920 := by
  have a := Bd.log (h.mono (Nat.le_succ k))
  omega
theorem Bd.of_lt {k : Nat} {x : Int} (h0 : 0 ≤ x) (h : x < 2 ^ k) : Bd k x := by
  unfold Bd
  have e : ((x.natAbs : Nat) : Int) = x := Int.natAbs_of_nonneg h0
  have : ((x.natAbs : Nat) : Int) < ((2 ^ k : Nat) : Int) := by rw [e, Int.natCast_pow]; exact h
  exact_mod_cast this
theorem Bd.lt {k : Nat} {x : Int} (h : Bd k x) : x < 2 ^ k := by
  have h1 : x ≤ ((x.natAbs : Nat) : Int) := Int.le_natAbs
  have h2 : ((x.natAbs : Nat) : Int) < ((2 ^ k : Nat) : Int) := by exact_mod_cast h
  rw [Int.natCast_pow] at h2
  exact Int.lt_of_le_of_lt h1 h2
theorem Bd.le {k : Nat} {x y : Int} (h : Bd k y) (h0 : 0 ≤ x) (e : x ≤ y) : Bd k x := Bd.of_lt h0 (Int.lt_of_le_of_lt e h.lt)
theorem Bd.nat {k n : Nat} (h : n < 2 ^ k) : Bd k (n : Int) := by unfold Bd; simpa using h
theorem Bd.add' {k l : Nat} {x y : Int} (h : Bd k x) (h' : Bd l y) : Bd (max k l + 1) (x + y) := (h.mono (Nat.le_max_left k l)).add (h'.mono (Nat.le_max_right k l))
theorem Bd.sub' {k l : Nat} {x y : Int} (h : Bd k x) (h' : Bd l y) : Bd (max k l + 1) (x - y) := (h.mono (Nat.le_max_left k l)).sub (h'.mono (Nat.le_max_right k l))
theorem Bd.mod {k : Nat} {x y : Int} (h0 : 0 < y) (h : Bd k y) : Bd k (x % y) := h.le (Int.emod_nonneg _ (by omega)) (Int.le_of_lt (Int.emod_lt_of_pos _ h0))
theorem Bd.lit {x : Int} (h : Nat.blt x.natAbs 18446744073709551616 = true) : Bd 64 x := by
  unfold Bd
  have := Nat.le_of_ble_eq_true h
  omega
theorem Bd.neg {k : Nat} {x : Int} (h : Bd k x) : Bd k (-x) := by unfold Bd at *; rwa [Int.natAbs_neg]
theorem Bd.abs {k : Nat} {x : Int} (h : Bd k x) : Bd k (if x < 0 then -x else x) := by split <;> first | exact h.neg | exact h
/-- a script's number -/
theorem Bd.script {x : Int} {k : Nat} (h : Builtin.Int.intBits x ≤ k) : Bd (k + 1) x := by
  have e : x.natAbs.log2 ≤ k := by
    unfold Builtin.Int.intBits at h
    split at h
    · rename_i z
      have : x.natAbs = 0 := by first | omega | simpa using z
      rw [this]; exact Nat.zero_le _
    · omega
  exact Nat.lt_of_lt_of_le Nat.lt_log2_self (Nat.pow_le_pow_right (by decide) (by omega))
theorem Bd.zero {k : Nat} : Bd k 0 := Nat.pow_pos (by decide)
theorem Bd.one {k : Nat} (h : 1 ≤ k) : Bd k 1 := Nat.lt_of_lt_of_le (by decide : 1 < 2 ^ 1) (Nat.pow_le_pow_right (by decide) h)
theorem Bd.ediv {k : Nat} {x y : Int} (h : Bd k x) : Bd k (x / y) := Nat.lt_of_le_of_lt (Int.natAbs_ediv_le_natAbs x y) h
/-! ### loops that are left -/
/-- a for by an invariant where a turn may leave: the same as for_ix -/
theorem for_map {β : Type} {turn : D → Ev → (Ev → Prop) → Prop} {src : List (RR × D)} {Q : Ev → Prop} {items : List D} {env : Ev} (xs : List β) (g : β → D) (hi : items = xs.map g) (P : List β → Ev → Prop) (h0 : P [] env)
    (step : ∀ pre x post e, xs = pre ++ x :: post → P pre e → ∀ k : Ev → Prop, (∀ e', P (pre ++ [x]) e' → k e') → turn (g x) e k) (fin : ∀ e, P xs e → Q e) : forL turn src Q items env := by
  subst hi
  refine for_ix (fun i e => P (xs.take i) e) (by simpa using h0) (fun i d e hd p k kk => ?_) (fun e p => ?_)
  · rw [List.getElem?_map] at hd
    cases q : xs[i]? with
    | none => rw [q] at hd; cases hd
    | some x =>
      rw [q] at hd
      cases hd
      have lt := (List.getElem?_eq_some_iff.mp q).1
      have e1 : xs = xs.take i ++ x :: xs.drop (i + 1) := by
        have : x = xs[i] := ((List.getElem?_eq_some_iff.mp q).2).symm
        rw [this, ← List.drop_eq_getElem_cons lt, List.take_append_drop]
      refine step (xs.take i) x (xs.drop (i + 1)) e e1 p k fun e' p' => kk e' ?_
      rw [List.take_add_one, q]
      exact p'
  · rw [List.length_map, List.take_length] at p
    exact fin e p
/-- both ways of an if come to one word -/
theorem ifs_join {G : Gt} {lk : List Nat} {xs ys : List PV.St} {b : Bool} {M : En} {e1 : Ev} (P : Ev → Prop) (h1 : b = true → ∀ N : Ev → Prop, (∀ e, P e → N e) → wpSs G lk xs { M with nx := N } e1) (h2 : b = false → ∀ N : Ev → Prop, (∀ e, P e → N e) → wpSs G lk ys { M with nx := N } e1) (k : ∀ e, P e → M.nx e) : ifB b (wpSs G lk xs M e1) (wpSs G lk ys M e1) := by
  cases b with
  | true => exact ifBT (h1 rfl M.nx k)
  | false => exact ifBF (h2 rfl M.nx k)
/-- a comprehension whose elements are told by a word alone -/
theorem lc_rel {β γ : Type} {turn : D → Ev → (D → Ev → Prop) → (Ev → Prop) → Prop} {src : List (RR × D)} {Q : List D → Ev → Prop} {env : Ev} {items : List D} (xs : List β) (g : β → D) (f : γ → D) (R : β → γ → Prop) (Pe : Nat → Ev → Prop) (hi : items = xs.map g) (h0 : Pe 0 env) (hc : ∀ i e, Pe i e → chk src e) (hl : xs.length ≤ LIM)
    (step : ∀ i x e, xs[i]? = some x → Pe i e → ∀ (ky : D → Ev → Prop) (kn : Ev → Prop), (∀ y e', R x y → Pe (i + 1) e' → ky (f y) e') → turn (g x) e ky kn) (fin : ∀ (ys : List γ) e, ys.length = xs.length → (∀ y ∈ ys, ∃ x ∈ xs, R x y) → Pe xs.length e → Q (ys.map f) e) : lcLoop turn src Q items [] env := by
  subst hi
  refine lc_ix (fun i acc e => Pe i e ∧ ∃ ys : List γ, acc = ys.map f ∧ ys.length = min i xs.length ∧ ∀ y ∈ ys, ∃ x ∈ xs, R x y) ⟨h0, [], rfl, by simp, fun y hy => (by cases hy)⟩ (fun i acc e z => hc i e z.1) (by simpa using hl) (fun i d acc e hd z ky kn k1 k2 => ?_) fun acc e z => ?_
  · rw [List.getElem?_map] at hd
    cases q : xs[i]? with
    | none => rw [q] at hd; cases hd
    | some x =>
      rw [q] at hd
      cases hd
      have lt := (List.getElem?_eq_some_iff.mp q).1
      obtain ⟨zp, ys, rfl, yl, yr⟩ := z
      refine step i x e q zp ky kn fun y e' hy hp => k1 _ _ ⟨hp, ys ++ [y], by simp, by simp; omega, fun u hu => ?_⟩
      rcases List.mem_append.mp hu with hu | hu
      · exact yr u hu
      · rw [List.mem_singleton.mp hu]
        exact ⟨x, List.mem_of_getElem? q, hy⟩
  · obtain ⟨zp, ys, rfl, yl, yr⟩ := z
    rw [List.length_map] at zp yl
    exact fin ys e (by omega) yr zp
/-! ### what repr gives: its size -/
mutual
def szP : PyData → Nat
  | .none => 4 | .bool _ => 5 | .int _ => 600 | .str x => 10 * x.length + 2 | .list xs => 2 + szPs xs | .tuple xs => 3 + szPs xs | .dict _ => 0
def szPs : List PyData → Nat
  | [] => 0
  | x :: xs => szP x + 2 + szPs xs
end
mutual
/-- no dict; texts of true code points -/
def plainP : PyData → Bool
  | .str x => x.cps.toList.all fun c => decide (c < 4294967296)
  | .list xs => plainPs xs | .tuple xs => plainPs xs | .dict _ => false | _ => true
def plainPs : List PyData → Bool
  | [] => true
  | x :: xs => plainP x && plainPs xs
end
theorem sl_app (x y : Str) : (x ++ y).length = x.length + y.length := by
  show (x.cps ++ y.cps).size = _
  rw [Array.size_append]; rfl
def sumL : List Str → Nat
  | [] => 0
  | t :: ts => t.length + 2 + sumL ts
theorem textFrom_le : ∀ (ts : List Str) (k : Nat) (acc : Str), (textFrom k acc ts).length ≤ acc.length + sumL ts
  | [], _, _ => Nat.le_refl _
  | t :: ts, k, acc => by
    have h := textFrom_le ts (k + 1) (acc ++ (if k > 0 then ", " else "" : String) ++ t)
    have e : (acc ++ (if k > 0 then ", " else "" : String) ++ t : Str).length ≤ acc.length + 2 + t.length := by
      rw [sl_app, sl_app]
      have : (Str.ofString (if k > 0 then ", " else "" : String)).length ≤ 2 := by split <;> decide
      omega
    show (textFrom (k + 1) _ ts).length ≤ acc.length + (t.length + 2 + sumL ts)
    omega
theorem join_le (sep : Str) (hs : sep.length = 2) : ∀ ts : List Str, (Str.join sep ts).length ≤ sumL ts
  | [] => Nat.le_refl 0
  | [x] => by show x.length ≤ x.length + 2 + 0; omega
  | x :: y :: r => by
    have := join_le sep hs (y :: r)
    show (x ++ sep ++ Str.join sep (y :: r)).length ≤ x.length + 2 + sumL (y :: r)
    rw [sl_app, sl_app, hs]
    omega
theorem int_short {i : Int} (h : i.natAbs.log2 < 1920) : (toString i : Str).length ≤ 600 := by
  have h1 : i.natAbs < 2 ^ 1920 := by
    by_cases z : i.natAbs = 0
    · rw [z]; exact Nat.pow_pos (by decide)
    · exact (Nat.log2_lt z).mp h
  have h2 : i.natAbs < 10 ^ 599 := Nat.lt_of_lt_of_le h1 (by decide +kernel)
  have := int_text_length_le10 (by decide) h2
  rw [ofString_length]; exact this
mutual
theorem shown_le : ∀ p : PyData, p.showable = true → plainP p = true → p.shown.length ≤ szP p
  | .none, _, _ => by decide
  | .bool b, _, _ => by cases b <;> decide
  | .int i, h, _ => int_short (of_decide_eq_true h)
  | .str x, _, h => StrLaws.reprText_len x fun c hc => of_decide_eq_true (List.all_eq_true.mp h c hc)
  | .list xs, h, g => by
    have := shownAll_le xs (by simpa [PyData.showable] using h) (by simpa [plainP] using g)
    have e : (PyData.list xs).shown = listText (PyData.shownAll xs) := by simp [PyData.shown]
    have t := textFrom_le (PyData.shownAll xs) 0 "["
    rw [e]
    show (textFrom 0 "[" (PyData.shownAll xs) ++ ("]" : Str)).length ≤ 2 + szPs xs
    rw [sl_app]
    have e1 : (Str.ofString "[").length = 1 := by decide
    have e2 : (Str.ofString "]").length = 1 := by decide
    omega
  | .tuple xs, h, g => by
    have := shownAll_le xs (by simpa [PyData.showable] using h) (by simpa [plainP] using g)
    have e : (PyData.tuple xs).shown = tupleText (PyData.shownAll xs) := by simp [PyData.shown]
    have t := join_le (Str.ofString ", ") (by decide) (PyData.shownAll xs)
    rw [e]
    unfold tupleText
    rw [sl_app, sl_app]
    have e1 : (Str.ofString "(").length = 1 := by decide
    have e2 : (Str.ofString (if (PyData.shownAll xs).length == 1 then ",)" else ")" : String)).length ≤ 2 := by split <;> decide
    show _ ≤ 3 + szPs xs
    omega
  | .dict _, _, h => by cases h
theorem shownAll_le : ∀ xs : List PyData, PyData.showableAll xs = true → plainPs xs = true → sumL (PyData.shownAll xs) ≤ szPs xs
  | [], _, _ => Nat.le_refl 0
  | x :: xs, h, g => by
    have h : (x.showable && PyData.showableAll xs) = true := h
    have g : (plainP x && plainPs xs) = true := g
    simp only [Bool.and_eq_true] at h g
    have a := shown_le x h.1 g.1
    have b := shownAll_le xs h.2 g.2
    show x.shown.length + 2 + sumL (PyData.shownAll xs) ≤ szP x + 2 + szPs xs
    omega
end
mutual
theorem plain_nodict : ∀ p : PyData, plainP p = true → p.hasDict = false
  | .none, _ => by simp [PyData.hasDict]
  | .bool _, _ => by simp [PyData.hasDict]
  | .int _, _ => by simp [PyData.hasDict]
  | .str _, _ => by simp [PyData.hasDict]
  | .list xs, h => by simpa [PyData.hasDict] using plain_nodicts xs (by simpa [plainP] using h)
  | .tuple xs, h => by simpa [PyData.hasDict] using plain_nodicts xs (by simpa [plainP] using h)
  | .dict _, h => by cases h
theorem plain_nodicts : ∀ xs : List PyData, plainPs xs = true → PyData.hasDictAll xs = false
  | [], _ => by simp [PyData.hasDictAll]
  | x :: xs, h => by
    have h : (plainP x && plainPs xs) = true := h
    simp only [Bool.and_eq_true] at h
    simp [PyData.hasDictAll, plain_nodict x h.1, plain_nodicts xs h.2]
end
theorem shownOk_of {p : PyData} (h : p.showable = true) (g : plainP p = true) (d : p.depth ≤ 60) (z : szP p ≤ LIM) : shownOk p := ⟨h, plain_nodict p g, d, Nat.le_trans (shown_le p h g) z⟩
theorem shw_int {k : Nat} {n : Int} (h : Bd k n) (e : k < 1920) : (PyData.int n).showable = true := decide_eq_true (h.strOk e)
theorem shw_list {xs : List PyData} (h : PyData.showableAll xs = true) : (PyData.list xs).showable = true := by simpa [PyData.showable] using h
theorem shw_tup {xs : List PyData} (h : PyData.showableAll xs = true) : (PyData.tuple xs).showable = true := by simpa [PyData.showable] using h
theorem shw_nil : PyData.showableAll [] = true := rfl
theorem shw_cons {x : PyData} {xs : List PyData} (h : x.showable = true) (g : PyData.showableAll xs = true) : PyData.showableAll (x :: xs) = true := by simp [PyData.showableAll, h, g]
theorem eqS_same (x : Str) : eqS (.str x) (.str x) = true := decide_eq_true rfl
end PV

namespace SD
open PySem L2 PV
def N_law_take : List Str := ["_law_hat", "_law_wide", "_law_churned", "_law_digit"]
def P_law_take : List Str := ["_law_hat", "_law_wide"]
def B_law_take : List PV.St := [.ifs (.cmp .gt (.idx (.var 0) (.lit (.int 0))) (.lit (.int 0))) [.asg 3 (.v (.bin .mod (.bi .int [.p (.idx (.var 0) (.lit (.int 0)))]) (.var 1))), .seti 0 (.lit (.int 0)) (.v (.bin .fdiv (.idx (.var 0) (.lit (.int 0))) (.var 1))), .ret (.v (.var 3))] [], .asg 2 (.v (.bi .int [.p (.idx (.var 0) (.lit (.int 1)))])), .seti 0 (.lit (.int 1)) (.v (.bin .mod (.bi .int [.p (.bin .add (.bin .add (.bin .mul (.var 2) (.lit (.int 48271))) (.bin .fdiv (.var 2) (.lit (.int 31337)))) (.lit (.int 12345)))]) (.lit (.int 4294967291)))), .ret (.v (.bin .mod (.bi .int [.p (.bin .fdiv (.idx (.var 0) (.lit (.int 1))) (.lit (.int 4099)))]) (.var 1)))]
def N_law_pull : List Str := ["_law_hat", "_law_things"]
def P_law_pull : List Str := ["_law_hat", "_law_things"]
def B_law_pull : List PV.St := [.ret (.v (.idx (.var 1) (.call 0 [.p (.var 0), .v (.bi .len [.p (.var 1)])])))]
def N_law_fresh_labels : List Str := ["_law_hat", "_law_many", "_law_heads", "_law_tails", "_law_turn"]
def P_law_fresh_labels : List Str := ["_law_hat", "_law_many"]
def B_law_fresh_labels : List PV.St := [.parT [2, 3] [.p (.bi .lst [.p (.lit (.str "qwertyuiopasdfghjklzxcvbnm"))]), .v (.lst [.v (.lit (.str "")), .v (.lit (.str "")), .v (.lit (.str "a")), .v (.lit (.str "zz")), .v (.lit (.str "abcdefghi"))])], .ret (.v (.lc (.v (.bin .add (.pop 2 (.p (.call 0 [.p (.var 0), .v (.bi .len [.p (.var 2)])]))) (.call 1 [.p (.var 0), .v (.var 3)]))) (.nm 4) (.rng (.p (.var 1))) [] [4]))]
def N_law_drawn_crew : List Str := ["_law_hat", "_law_most", "_law_spread", "_law_crew", "_law_label"]
def P_law_drawn_crew : List Str := ["_law_hat", "_law_most"]
def B_law_drawn_crew : List PV.St := [.asg 2 (.v (.call 1 [.p (.var 0), .v (.lst [.v (.lit (.int 1)), .v (.lit (.int 1)), .v (.lit (.int 2)), .v (.lit (.int 6))])])), .asg 3 (.p (.lst [])), .forr (.nm 4) (.it (.p (.call 2 [.p (.var 0), .v (.bin .add (.lit (.int 1)) (.call 0 [.p (.var 0), .v (.var 1)]))]))) [.app 3 (.v (.lst [.v (.var 4), .v (.bin .mul (.var 2) (.bin .add (.lit (.int 1)) (.call 0 [.p (.var 0), .v (.lit (.int 6))]))), .v (.call 0 [.p (.var 0), .v (.idx (.lst [.v (.lit (.int 1)), .v (.lit (.int 4)), .v (.lit (.int 14))]) (.call 0 [.p (.var 0), .v (.lit (.int 3))]))])]))], .ret (.v (.var 3))]
def N_law_written : List Str := ["_law_crew", "_law_label", "_law_pace", "_law_start"]
def P_law_written : List Str := ["_law_crew"]
def B_law_written : List PV.St := [.ret (.v (.mi .join (.p (.lit (.str "\n"))) [.p (.lc (.v (.bin .add (.bin .add (.bin .add (.bin .add (.var 1) (.lit (.str " "))) (.bi .str [.p (.var 2)])) (.lit (.str " "))) (.bi .str [.p (.var 3)]))) (.tp [.nm 1, .nm 2, .nm 3]) (.it (.p (.var 0))) [] [1, 2, 3])]))]
def N_law_divisor : List Str := ["_law_left", "_law_right"]
def P_law_divisor : List Str := ["_law_left", "_law_right"]
def B_law_divisor : List PV.St := [.whl (.cmp .gt (.var 1) (.lit (.int 0))) [.par [0, 1] [.v (.var 1), .v (.bin .mod (.bi .int [.p (.var 0)]) (.var 1))]], .ret (.v (.var 0))]
def N_law_turns_in : List Str := ["_law_crew", "_law_early", "_law_whole", "_law_top", "_law_label", "_law_pace", "_law_start"]
def P_law_turns_in : List Str := ["_law_crew"]
def B_law_turns_in : List PV.St := [.asgT (.tp [.nm 2, .nm 3]) (.v (.tup [.v (.lit (.int 1)), .v (.lit (.int 0))])), .forr (.tp [.nm 4, .nm 5, .nm 6]) (.it (.p (.var 0))) [.asg 2 (.v (.bin .mul (.bin .fdiv (.var 2) (.call 5 [.v (.var 2), .v (.var 5)])) (.var 5))), .asg 3 (.v (.ite (.cmp .gt (.var 6) (.var 3)) (.var 6) (.var 3)))], .asg 1 (.v (.bi .sum [.p (.lc (.v (.bin .fdiv (.bin .sub (.bin .add (.bin .sub (.var 3) (.var 6)) (.var 5)) (.lit (.int 1))) (.var 5))) (.tp [.nm 4, .nm 5, .nm 6]) (.it (.p (.var 0))) [] [4, 5, 6])])), .ret (.v (.tup [.v (.var 1), .v (.bi .sum [.p (.lc (.v (.bin .fdiv (.var 2) (.var 5))) (.tp [.nm 4, .nm 5, .nm 6]) (.it (.p (.var 0))) [] [4, 5, 6])])]))]
def N_law_parts_of : List Str := ["_law_left", "_law_right", "_law_rows", "_law_common", "_law_times", "_law_k"]
def P_law_parts_of : List Str := ["_law_left", "_law_right"]
def B_law_parts_of : List PV.St := [.asg 2 (.v (.lst [.v (.lst [.v (.var 0), .v (.lit (.int 1)), .v (.lit (.int 0))]), .v (.lst [.v (.var 1), .v (.lit (.int 0)), .v (.lit (.int 1))])])), .whl (.cmp .gt (.idx (.idx (.var 2) (.lit (.int 1))) (.lit (.int 0))) (.lit (.int 0))) [.asg 4 (.v (.bin .fdiv (.idx (.idx (.var 2) (.lit (.int 0))) (.lit (.int 0))) (.idx (.idx (.var 2) (.lit (.int 1))) (.lit (.int 0))))), .asg 2 (.v (.lst [.v (.idx (.var 2) (.lit (.int 1))), .v (.lc (.v (.bin .sub (.idx (.idx (.var 2) (.lit (.int 0))) (.var 5)) (.bin .mul (.var 4) (.idx (.idx (.var 2) (.lit (.int 1))) (.var 5))))) (.nm 5) (.rng (.p (.lit (.int 3)))) [] [5])]))], .asg 3 (.v (.idx (.idx (.var 2) (.lit (.int 0))) (.lit (.int 0)))), .ret (.v (.tup [.v (.var 3), .v (.bin .fdiv (.var 0) (.var 3)), .v (.bin .fdiv (.var 1) (.var 3)), .v (.idx (.idx (.var 2) (.lit (.int 0))) (.lit (.int 1))), .v (.idx (.idx (.var 2) (.lit (.int 0))) (.lit (.int 2)))]))]
def N_law_dealt : List Str := ["_law_crew", "_law_size", "_law_turn", "_law_waits", "_law_word", "_law_place", "_law_item", "_law_wait"]
def P_law_dealt : List Str := ["_law_crew", "_law_size"]
def B_law_dealt : List PV.St := [.par [3, 4] [.p (.lc (.v (.bi .int [.p (.idx (.var 6) (.lit (.int 2)))])) (.nm 6) (.it (.p (.var 0))) [] [6]), .p (.lst [])], .forr (.nm 2) (.rng (.p (.var 1))) [.asg 5 (.v (.mi .lindex (.p (.var 3)) [.p (.bi .min [.p (.lc (.v (.bi .int [.p (.var 7)])) (.nm 7) (.it (.p (.var 3))) [] [7])])])), .app 4 (.v (.var 5)), .seti 3 (.var 5) (.v (.bin .add (.idx (.var 3) (.var 5)) (.idx (.idx (.var 0) (.var 5)) (.lit (.int 1)))))], .ret (.p (.var 4))]
def N_law_greatest : List Str := ["_law_crew", "_law_low", "_law_high", "_law_gains", "_law_place", "_law_early", "_law_turns", "_law_common", "_law_top", "_law_here", "_law_item"]
def P_law_greatest : List Str := ["_law_crew", "_law_low", "_law_high"]
def B_law_greatest : List PV.St := [.asgT (.tp [.nm 5, .nm 6]) (.v (.call 6 [.v (.var 0)])), .par [7, 8, 9] [.v (.call 5 [.v (.idx (.idx (.var 0) (.var 1)) (.lit (.int 1))), .v (.idx (.idx (.var 0) (.var 2)) (.lit (.int 1)))]), .v (.lit (.int 0)), .v (.lit (.int 0))], .asg 3 (.p (.lc (.v (.lit (.int 0))) (.nm 10) (.it (.p (.var 0))) [] [10])), .seti 3 (.var 1) (.v (.bin .fdiv (.idx (.idx (.var 0) (.var 1)) (.lit (.int 1))) (.var 7))), .seti 3 (.var 2) (.v (.bin .sub (.lit (.int 0)) (.bin .fdiv (.idx (.idx (.var 0) (.var 2)) (.lit (.int 1))) (.var 7)))), .forr (.nm 4) (.it (.p (.call 8 [.v (.var 0), .v (.bin .add (.var 5) (.var 6))]))) [.asg 9 (.v (.bin .add (.var 9) (.idx (.var 3) (.var 4)))), .asg 8 (.v (.ite (.cmp .gt (.var 9) (.var 8)) (.var 9) (.var 8)))], .ret (.v (.var 8))]
def N_is_log_shown : List Str := ["claim", "paper", "deal", "names", "log"]
def P_is_log_shown : List Str := ["claim", "paper"]
def B_is_log_shown : List PV.St := []
def N_is_name : List Str := ["value", "letter"]
def P_is_name : List Str := ["value"]
def B_is_name : List PV.St := [.ifs (.bor [.nott (.isi .str (.p (.var 0))), .nott (.chain .lt .le (.lit (.int 0)) (.bi .len [.p (.var 0)]) (.glob 0))]) [.ret (.v (.lit (.bl false)))] [], .ret (.v (.bi .all [.p (.lc (.v (.cmp .isin (.var 1) (.glob 1))) (.nm 1) (.it (.p (.var 0))) [] [1])]))]
def N_amount_in : List Str := ["word", "amount", "sign"]
def P_amount_in : List Str := ["word"]
def B_amount_in : List PV.St := [.ifs (.bor [.cmp .eq (.var 0) (.lit (.str "")), .bi .any [.p (.lc (.v (.cmp .notin (.var 2) (.glob 2))) (.nm 2) (.it (.p (.var 0))) [] [2])], .band [.cmp .eq (.idx (.var 0) (.lit (.int 0))) (.lit (.str "0")), .cmp .ne (.var 0) (.lit (.str "0"))]]) [.ret (.v (.neg (.lit (.int 1))))] [], .asg 1 (.v (.lit (.int 0))), .forr (.nm 2) (.it (.p (.var 0))) [.asg 1 (.v (.bin .add (.bin .mul (.lit (.int 10)) (.var 1)) (.mi .sindex (.p (.glob 2)) [.p (.var 2)])))], .ret (.v (.var 1))]
def N_is_whole : List Str := ["value"]
def P_is_whole : List Str := ["value"]
def B_is_whole : List PV.St := [.ret (.v (.band [.isi .int (.p (.var 0)), .cmp .isnt (.var 0) (.lit (.bl true)), .cmp .isnt (.var 0) (.lit (.bl false))]))]
def N_is_stride : List Str := ["value"]
def P_is_stride : List Str := ["value"]
def B_is_stride : List PV.St := [.ret (.v (.band [.call 13 [.v (.var 0)], .cmp .ge (.var 0) (.lit (.int 1))]))]
def N_check_stride : List Str := ["value"]
def P_check_stride : List Str := ["value"]
def B_check_stride : List PV.St := [.ifs (.nott (.call 14 [.v (.var 0)])) [.rai] []]
def N_is_amount : List Str := ["value"]
def P_is_amount : List Str := ["value"]
def B_is_amount : List PV.St := [.ret (.v (.band [.call 13 [.v (.var 0)], .cmp .ge (.var 0) (.lit (.int 0))]))]
def N_check_number : List Str := ["value"]
def P_check_number : List Str := ["value"]
def B_check_number : List PV.St := [.ifs (.nott (.call 16 [.v (.var 0)])) [.rai] []]
def N_Taker_init : List Str := ["self", "name", "stride", "begin"]
def P_Taker_init : List Str := ["self", "name", "stride", "begin"]
def B_Taker_init : List PV.St := [.ifs (.nott (.call 11 [.v (.var 1)])) [.rai] [], .expr (.call 15 [.v (.var 2)]), .expr (.call 17 [.v (.var 3)]), .setf 0 0 0 (.v (.var 1)), .setf 0 0 1 (.v (.var 2)), .setf 0 0 2 (.v (.var 3))]
def N_taker_in : List Str := ["line", "words", "stride", "begin"]
def P_taker_in : List Str := ["line"]
def B_taker_in : List PV.St := [.asg 1 (.v (.mi .split (.p (.var 0)) [.p (.lit (.str " "))])), .ifs (.bor [.cmp .ne (.bi .len [.p (.var 1)]) (.lit (.int 3)), .nott (.call 11 [.v (.idx (.var 1) (.lit (.int 0)))])]) [.ret (.v (.lit .non))] [], .par [2, 3] [.v (.call 12 [.v (.idx (.var 1) (.lit (.int 1)))]), .v (.call 12 [.v (.idx (.var 1) (.lit (.int 2)))])], .ifs (.bor [.nott (.call 14 [.v (.var 2)]), .cmp .lt (.var 3) (.lit (.int 0))]) [.ret (.v (.lit .non))] [], .ret (.v (.make 0 18 [.v (.idx (.var 1) (.lit (.int 0))), .v (.var 2), .v (.var 3)]))]
def N_takers_in : List Str := ["text", "takers", "names", "line", "taker"]
def P_takers_in : List Str := ["text"]
def B_takers_in : List PV.St := [.asg 1 (.v (.lc (.v (.call 19 [.v (.var 3)])) (.nm 3) (.it (.p (.mi .split (.p (.var 0)) [.p (.lit (.str "\n"))]))) [] [3])), .ifs (.bor [.cmp .gt (.bi .len [.p (.var 1)]) (.glob 3), .bi .any [.p (.lc (.v (.cmp .is (.var 4) (.lit .non))) (.nm 4) (.it (.p (.var 1))) [] [4])]]) [.ret (.v (.lit .non))] [], .asg 2 (.v (.lc (.v (.fld (.var 4) 0 0)) (.nm 4) (.it (.p (.var 1))) [] [4])), .ret (.v (.ite (.cmp .eq (.nset (.p (.var 2))) (.bi .len [.p (.var 2)])) (.var 1) (.lit .non)))]
def N_check_takers : List Str := ["values", "known", "index", "taker"]
def P_check_takers : List Str := ["values"]
def B_check_takers : List PV.St := [.ifs (.nott (.chain .le .le (.lit (.int 1)) (.bi .len [.p (.var 0)]) (.glob 3))) [.rai] [], .asg 1 (.p (.lst [])), .forr (.tp [.nm 2, .nm 3]) (.enum (.p (.var 0))) [.ifs (.bor [.nott (.isi (.own 0) (.p (.var 3))), .cmp .isin (.fld (.var 3) 0 0) (.var 1)]) [.rai] [], .app 1 (.v (.fld (.var 3) 0 0))]]
def N_common_divisor : List Str := ["one", "other"]
def P_common_divisor : List Str := ["one", "other"]
def B_common_divisor : List PV.St := [.whl (.cmp .ne (.var 1) (.lit (.int 0))) [.par [0, 1] [.v (.var 1), .v (.bin .mod (.bi .int [.p (.var 0)]) (.bi .int [.p (.var 1)]))]], .ret (.v (.var 0))]
def N_common_multiple : List Str := ["numbers", "product", "number"]
def P_common_multiple : List Str := ["numbers"]
def B_common_multiple : List PV.St := [.asg 1 (.v (.lit (.int 1))), .forr (.nm 2) (.it (.p (.var 0))) [.asg 1 (.v (.bin .mul (.bin .fdiv (.var 1) (.call 22 [.v (.var 1), .v (.var 2)])) (.var 2)))], .ret (.v (.var 1))]
def N_Taker_turns_below : List Str := ["self", "mark"]
def P_Taker_turns_below : List Str := ["self", "mark"]
def B_Taker_turns_below : List PV.St := [.ifs (.cmp .le (.var 1) (.fld (.var 0) 0 2)) [.ret (.v (.lit (.int 0)))] [], .ret (.v (.bin .fdiv (.bin .sub (.bin .add (.bin .sub (.var 1) (.fld (.var 0) 0 2)) (.fld (.var 0) 0 1)) (.lit (.int 1))) (.fld (.var 0) 0 1)))]
def N_Deal_all_below : List Str := ["self", "mark", "taker"]
def P_Deal_all_below : List Str := ["self", "mark"]
def B_Deal_all_below : List PV.St := [.ret (.v (.bi .sum [.p (.lc (.v (.meth 0 24 (.p (.var 2)) [.v (.var 1)])) (.nm 2) (.it (.p (.fld (.var 0) 1 0))) [] [2])]))]
def N_Deal_init : List Str := ["self", "takers", "strides", "whole", "taker", "stride"]
def P_Deal_init : List Str := ["self", "takers"]
def B_Deal_init : List PV.St := [.expr (.call 21 [.v (.var 1)]), .setf 0 1 0 (.v (.var 1)), .setf 0 1 1 (.v (.bi .tup [.p (.lc (.v (.fld (.var 4) 0 0)) (.nm 4) (.it (.p (.var 1))) [] [4])])), .asg 2 (.v (.lc (.v (.fld (.var 4) 0 1)) (.nm 4) (.it (.p (.var 1))) [] [4])), .asg 3 (.v (.call 23 [.v (.var 2)])), .setf 0 1 2 (.v (.bi .sum [.p (.lc (.v (.bin .fdiv (.var 3) (.var 5))) (.nm 5) (.it (.p (.var 2))) [] [5])])), .setf 0 1 3 (.v (.meth 1 25 (.p (.var 0)) [.v (.bi .max [.p (.lc (.v (.bi .int [.p (.fld (.var 4) 0 2)])) (.nm 4) (.it (.p (.var 1))) [] [4])])]))]
def N_Deal_read : List Str := ["text", "takers"]
def P_Deal_read : List Str := ["text"]
def B_Deal_read : List PV.St := [.asg 1 (.v (.ite (.isi .str (.p (.var 0))) (.call 20 [.v (.var 0)]) (.lit .non))), .ifs (.cmp .is (.var 1) (.lit .non)) [.rai] [], .ret (.v (.makeS 1 26 (.p (.var 1))))]
def N_deal_written : List Str := ["value"]
def P_deal_written : List Str := ["value"]
def B_deal_written : List PV.St := [.ifs (.nott (.isi .str (.p (.var 0)))) [.ret (.v (.lit .non))] [], .tri [.ret (.v (.call 27 [.v (.var 0)]))]]
def N_is_figure : List Str := ["value"]
def P_is_figure : List Str := ["value"]
def B_is_figure : List PV.St := [.ret (.v (.band [.isi .int (.p (.var 0)), .nott (.isi .bool (.p (.var 0)))]))]
def N_is_count : List Str := ["value"]
def P_is_count : List Str := ["value"]
def B_is_count : List PV.St := [.ret (.v (.band [.call 29 [.v (.var 0)], .cmp .ge (.var 0) (.lit (.int 0))]))]
def N_shows_turn : List Str := ["deal", "number", "name", "counts", "place", "mate", "count"]
def P_shows_turn : List Str := ["deal", "number", "name", "counts"]
def B_shows_turn : List PV.St := []
def N_is_row_of : List Str := ["value", "length"]
def P_is_row_of : List Str := ["value", "length"]
def B_is_row_of : List PV.St := [.ret (.v (.band [.isi .tup (.p (.var 0)), .cmp .eq (.bi .len [.p (.var 0)]) (.var 1)]))]
def N_shows_lead : List Str := ["deal", "pair", "number", "paper", "g", "u", "v", "x", "y", "place", "mate", "one", "two", "gap", "bound", "part"]
def P_shows_lead : List Str := ["deal", "pair", "number", "paper"]
def B_shows_lead : List PV.St := [.ifs (.bor [.nott (.call 32 [.v (.var 3), .v (.lit (.int 5))]), .nott (.bi .all [.p (.lc (.v (.call 29 [.v (.var 15)])) (.nm 15) (.it (.p (.var 3))) [] [15])])]) [.ret (.v (.lit (.bl false)))] [], .asgT (.tp [.nm 4, .nm 5, .nm 6, .nm 7, .nm 8]) (.v (.var 3)), .par [9, 10] [.v (.mi .tindex (.p (.fld (.var 0) 1 1)) [.p (.idx (.var 1) (.lit (.int 0)))]), .v (.mi .tindex (.p (.fld (.var 0) 1 1)) [.p (.idx (.var 1) (.lit (.int 1)))])], .par [11, 12] [.v (.idx (.fld (.var 0) 1 0) (.var 9)), .v (.idx (.fld (.var 0) 1 0) (.var 10))], .ifs (.bor [.cmp .lt (.var 4) (.lit (.int 1)), .cmp .lt (.var 5) (.lit (.int 1)), .cmp .lt (.var 6) (.lit (.int 1)), .cmp .ne (.fld (.var 11) 0 1) (.bin .mul (.var 4) (.var 5)), .cmp .ne (.fld (.var 12) 0 1) (.bin .mul (.var 4) (.var 6)), .cmp .ne (.bin .add (.bin .mul (.var 5) (.var 7)) (.bin .mul (.var 6) (.var 8))) (.lit (.int 1))]) [.ret (.v (.lit (.bl false)))] [], .par [13, 14] [.v (.bin .sub (.fld (.var 12) 0 2) (.fld (.var 11) 0 2)), .v (.bin .mul (.bin .add (.bin .sub (.var 2) (.var 5)) (.lit (.int 1))) (.var 4))], .ret (.v (.band [.cmp .ge (.var 2) (.lit (.int 0)), .bor [.cmp .lt (.var 13) (.var 14), .band [.cmp .eq (.var 13) (.var 14), .cmp .lt (.var 10) (.var 9)]]]))]
def N_is_lead_shown : List Str := ["deal", "claim", "paper", "one", "other", "number"]
def P_is_lead_shown : List Str := ["deal", "claim", "paper"]
def B_is_lead_shown : List PV.St := [.asgT (.tp [.nm 3, .nm 4, .nm 5]) (.v (.slc (.var 1) [.lit (.int 2)] [])), .ifs (.bor [.nott (.isi .str (.p (.var 3))), .nott (.isi .str (.p (.var 4))), .cmp .eq (.var 3) (.var 4), .nott (.call 29 [.v (.var 5)])]) [.ret (.v (.lit (.bl false)))] [], .ifs (.bor [.cmp .notin (.var 3) (.fld (.var 0) 1 1), .cmp .notin (.var 4) (.fld (.var 0) 1 1)]) [.ret (.v (.lit (.bl false)))] [], .ret (.v (.call 33 [.v (.var 0), .v (.tup [.v (.var 3), .v (.var 4)]), .v (.var 5), .v (.var 2)]))]
def N_shows_alike : List Str := ["deal", "other_deal", "paper", "taker", "factors", "rows", "mate", "row", "factor"]
def P_shows_alike : List Str := ["deal", "other_deal", "paper"]
def B_shows_alike : List PV.St := []
def N_is_unlike_shown : List Str := ["deal", "other_deal", "number", "paper", "name", "counts", "mate", "others", "pair"]
def P_is_unlike_shown : List Str := ["deal", "other_deal", "number", "paper"]
def B_is_unlike_shown : List PV.St := []
def N_holds : List Str := ["claim", "paper", "word", "deal", "other_deal"]
def P_holds : List Str := ["claim", "paper"]
def B_holds : List PV.St := [.ifs (.bor [.nott (.isi .tup (.p (.var 0))), .cmp .eq (.var 0) (.tup []), .nott (.isi .str (.p (.idx (.var 0) (.lit (.int 0)))))]) [.ret (.v (.lit (.bl false)))] [], .asg 2 (.v (.idx (.var 0) (.lit (.int 0)))), .ifs (.cmp .ne (.cget 0 (.p (.var 2)) 0) (.bi .len [.p (.var 0)])) [.ret (.v (.lit (.bl false)))] [], .ifs (.cmp .isin (.var 2) (.tup [.v (.lit (.str "log")), .v (.lit (.str "no deal"))])) [.ret (.v (.call 10 [.v (.var 0), .v (.var 1)]))] [], .asg 3 (.v (.call 28 [.v (.idx (.var 0) (.lit (.int 1)))])), .ifs (.cmp .is (.var 3) (.lit .non)) [.ret (.v (.lit (.bl false)))] [], .ifs (.cmp .eq (.var 2) (.lit (.str "turn"))) [.ret (.v (.band [.call 30 [.v (.idx (.var 0) (.lit (.int 2)))], .call 31 [.v (.var 3), .v (.idx (.var 0) (.lit (.int 2))), .v (.idx (.var 0) (.lit (.int 3))), .v (.var 1)]]))] [], .ifs (.cmp .eq (.var 2) (.lit (.str "lead"))) [.ret (.v (.call 34 [.v (.var 3), .v (.var 0), .v (.var 1)]))] [], .asg 4 (.v (.call 28 [.v (.idx (.var 0) (.lit (.int 2)))])), .ifs (.cmp .is (.var 4) (.lit .non)) [.ret (.v (.lit (.bl false)))] [], .ifs (.cmp .eq (.var 2) (.lit (.str "alike"))) [.ret (.v (.call 35 [.v (.var 3), .v (.var 4), .v (.var 1)]))] [], .ret (.v (.band [.call 30 [.v (.idx (.var 0) (.lit (.int 3)))], .call 36 [.v (.var 3), .v (.var 4), .v (.idx (.var 0) (.lit (.int 3))), .v (.var 1)]]))]
def N_law_marred_r0 : List Str := ["_law_hat", "_law_thing", "_law_at"]
def P_law_marred_r0 : List Str := ["_law_hat", "_law_thing"]
def B_law_marred_r0 : List PV.St := []
def N_law_marred_r1 : List Str := ["_law_hat", "_law_thing", "_law_at"]
def P_law_marred_r1 : List Str := ["_law_hat", "_law_thing"]
def B_law_marred_r1 : List PV.St := [.ifs (.bor [.nott (.isi .tup (.p (.var 1))), .cmp .eq (.var 1) (.tup []), .cmp .eq (.call 0 [.p (.var 0), .v (.lit (.int 5))]) (.lit (.int 0))]) [.ret (.v (.call 1 [.p (.var 0), .v (.lst [.v (.lst [.v (.var 1)]), .v (.lit .non), .v (.lit (.int 0)), .v (.lit (.int 1)), .v (.neg (.lit (.int 1))), .v (.cmp .eq (.var 1) (.lit (.int 0))), .v (.cmp .eq (.var 1) (.lit (.int 1))), .v (.tup []), .v (.tup [.v (.var 1)]), .v (.lit (.str "")), .v (.lit (.str "a")), .v (.dnew), .v (.var 1), .v (.lit (.str "1"))])]))] [], .asg 2 (.v (.call 0 [.p (.var 0), .v (.bi .len [.p (.var 1)])])), .ret (.v (.bin .add (.bin .add (.slc (.var 1) [] [.var 2]) (.tup [.v (.call 38 [.p (.var 0), .v (.idx (.var 1) (.var 2))])])) (.slc (.var 1) [.bin .add (.var 2) (.lit (.int 1))] [])))]
def N_law_marred_r2 : List Str := ["_law_hat", "_law_thing", "_law_at"]
def P_law_marred_r2 : List Str := ["_law_hat", "_law_thing"]
def B_law_marred_r2 : List PV.St := [.ifs (.bor [.nott (.isi .tup (.p (.var 1))), .cmp .eq (.var 1) (.tup []), .cmp .eq (.call 0 [.p (.var 0), .v (.lit (.int 5))]) (.lit (.int 0))]) [.ret (.v (.call 1 [.p (.var 0), .v (.lst [.v (.lst [.v (.var 1)]), .v (.lit .non), .v (.lit (.int 0)), .v (.lit (.int 1)), .v (.neg (.lit (.int 1))), .v (.cmp .eq (.var 1) (.lit (.int 0))), .v (.cmp .eq (.var 1) (.lit (.int 1))), .v (.tup []), .v (.tup [.v (.var 1)]), .v (.lit (.str "")), .v (.lit (.str "a")), .v (.dnew), .v (.var 1), .v (.lit (.str "1"))])]))] [], .asg 2 (.v (.call 0 [.p (.var 0), .v (.bi .len [.p (.var 1)])])), .ret (.v (.bin .add (.bin .add (.slc (.var 1) [] [.var 2]) (.tup [.v (.call 39 [.p (.var 0), .v (.idx (.var 1) (.var 2))])])) (.slc (.var 1) [.bin .add (.var 2) (.lit (.int 1))] [])))]
def N_law_changed : List Str := ["_law_hat", "_law_sheet", "_law_menu", "_law_g", "_law_u", "_law_v", "_law_x", "_law_y"]
def P_law_changed : List Str := ["_law_hat", "_law_sheet"]
def B_law_changed : List PV.St := [.asgT (.tp [.nm 3, .nm 4, .nm 5, .nm 6, .nm 7]) (.v (.var 1)), .asg 2 (.p (.lst [.v (.var 1), .v (.tup [.v (.var 3), .v (.var 4), .v (.var 5), .v (.bin .add (.var 6) (.var 5)), .v (.bin .sub (.var 7) (.var 4))]), .v (.tup [.v (.var 3), .v (.var 4), .v (.var 5), .v (.bin .sub (.var 6) (.bin .mul (.lit (.int 7)) (.var 5))), .v (.bin .add (.var 7) (.bin .mul (.lit (.int 7)) (.var 4)))]), .v (.tup [.v (.var 3), .v (.var 4), .v (.var 5), .v (.bin .add (.var 6) (.lit (.int 1))), .v (.var 7)]), .v (.tup [.v (.bin .mul (.lit (.int 2)) (.var 3)), .v (.var 4), .v (.var 5), .v (.var 6), .v (.var 7)])])), .asg 2 (.p (.bin .add (.var 2) (.lst [.v (.tup [.v (.var 3), .v (.var 4), .v (.var 5), .v (.var 7), .v (.var 6)]), .v (.tup [.v (.var 3), .v (.var 5), .v (.var 4), .v (.var 7), .v (.var 6)]), .v (.slc (.var 1) [] [.lit (.int 4)]), .v (.bin .add (.var 1) (.tup [.v (.lit (.int 0))])), .v (.bi .lst [.p (.var 1)]), .v (.tup [.v (.neg (.var 3)), .v (.neg (.var 4)), .v (.neg (.var 5)), .v (.neg (.var 6)), .v (.neg (.var 7))])]))), .ifs (.cmp .eq (.bin .mod (.bi .int [.p (.var 3)]) (.lit (.int 2))) (.lit (.int 0))) [.app 2 (.v (.tup [.v (.bin .fdiv (.var 3) (.lit (.int 2))), .v (.bin .mul (.lit (.int 2)) (.var 4)), .v (.bin .mul (.lit (.int 2)) (.var 5)), .v (.var 6), .v (.var 7)]))] [], .ret (.v (.call 1 [.p (.var 0), .v (.bin .add (.var 2) (.lst [.v (.call 40 [.p (.var 0), .v (.var 1)])]))]))]
def N_law_is_integer : List Str := ["_law_thing"]
def P_law_is_integer : List Str := ["_law_thing"]
def B_law_is_integer : List PV.St := [.ret (.v (.band [.isi .int (.p (.var 0)), .nott (.isi .bool (.p (.var 0)))]))]
def N_law_judged : List Str := ["_law_crew", "_law_low", "_law_high", "_law_size", "_law_sheet", "_law_gap", "_law_g", "_law_u", "_law_v", "_law_x", "_law_y", "_law_part"]
def P_law_judged : List Str := ["_law_crew", "_law_low", "_law_high", "_law_size", "_law_sheet"]
def B_law_judged : List PV.St := [.ifs (.bor [.nott (.isi .tup (.p (.var 4))), .cmp .ne (.bi .len [.p (.var 4)]) (.lit (.int 5)), .nott (.bi .all [.p (.lc (.v (.call 42 [.v (.var 11)])) (.nm 11) (.it (.p (.var 4))) [] [11])])]) [.ret (.v (.lit (.bl false)))] [], .asgT (.tp [.nm 6, .nm 7, .nm 8, .nm 9, .nm 10]) (.v (.var 4)), .ifs (.bor [.cmp .lt (.var 6) (.lit (.int 1)), .cmp .lt (.var 7) (.lit (.int 1)), .cmp .lt (.var 8) (.lit (.int 1)), .cmp .ne (.lst [.v (.bin .mul (.var 6) (.var 7)), .v (.bin .mul (.var 6) (.var 8))]) (.lst [.v (.idx (.idx (.var 0) (.var 1)) (.lit (.int 1))), .v (.idx (.idx (.var 0) (.var 2)) (.lit (.int 1)))]), .cmp .ne (.bin .add (.bin .mul (.var 7) (.var 9)) (.bin .mul (.var 8) (.var 10))) (.lit (.int 1)), .cmp .lt (.var 3) (.lit (.int 0))]) [.ret (.v (.lit (.bl false)))] [], .asg 5 (.v (.bin .sub (.bin .sub (.idx (.idx (.var 0) (.var 2)) (.lit (.int 2))) (.idx (.idx (.var 0) (.var 1)) (.lit (.int 2)))) (.bin .mul (.var 6) (.bin .add (.bin .sub (.var 3) (.var 7)) (.lit (.int 1)))))), .ret (.v (.bor [.cmp .lt (.var 5) (.lit (.int 0)), .band [.cmp .eq (.var 5) (.lit (.int 0)), .cmp .gt (.var 1) (.var 2)]]))]
def N_law_all_right : List Str := ["_law_hat", "_law_factor", "_law_crew", "_law_turn", "_law_page", "_law_small", "_law_low", "_law_high", "_law_sheet", "_law_top", "_law_claims", "_law_again", "_law_due", "_law_label", "_law_pace", "_law_start", "_law_size", "_law_each"]
def P_law_all_right : List Str := ["_law_hat"]
def B_law_all_right : List PV.St := [.asg 1 (.v (.call 1 [.p (.var 0), .v (.lst [.v (.lit (.int 1)), .v (.lit (.int 1)), .v (.lit (.int 3)), .v (.bin .add (.bin .pow (.lit (.int 10)) (.lit (.int 29))) (.lit (.int 1)))])])), .asg 2 (.v (.bin .add (.call 3 [.p (.var 0), .v (.lit (.int 3))]) (.lst [.v (.lst [.v (.lit (.str "zzzz")), .v (.bin .add (.lit (.int 1)) (.call 0 [.p (.var 0), .v (.lit (.int 6))])), .v (.call 0 [.p (.var 0), .v (.lit (.int 9))])])]))), .asg 2 (.v (.lc (.v (.lst [.v (.var 13), .v (.bin .mul (.var 14) (.var 1)), .v (.bin .mul (.var 15) (.var 1))])) (.tp [.nm 13, .nm 14, .nm 15]) (.it (.p (.var 2))) [] [13, 14, 15])), .par [4, 5] [.v (.call 4 [.v (.var 2)]), .v (.cmp .lt (.bi .max [.p (.lc (.v (.bi .int [.p (.var 16)])) (.nm 16) (.it (.p (.call 6 [.v (.var 2)]))) [] [16])]) (.lit (.int 300)))], .forr (.nm 3) (.rng (.p (.lit (.int 6)))) [.asg 6 (.v (.call 0 [.p (.var 0), .v (.bi .len [.p (.var 2)])])), .asg 7 (.v (.bin .mod (.bi .int [.p (.bin .add (.bin .add (.var 6) (.lit (.int 1))) (.call 0 [.p (.var 0), .v (.bin .sub (.bi .len [.p (.var 2)]) (.lit (.int 1)))]))]) (.bi .len [.p (.var 2)]))), .asg 8 (.v (.call 7 [.v (.idx (.idx (.var 2) (.var 6)) (.lit (.int 1))), .v (.idx (.idx (.var 2) (.var 7)) (.lit (.int 1)))])), .asg 9 (.v (.ite (.var 5) (.call 9 [.v (.var 2), .v (.var 6), .v (.var 7)]) (.idx (.var 8) (.lit (.int 1))))), .asg 10 (.v (.tup [.v (.lit (.str "lead")), .v (.var 4), .v (.idx (.idx (.var 2) (.var 6)) (.lit (.int 0))), .v (.idx (.idx (.var 2) (.var 7)) (.lit (.int 0)))])), .ifs (.band [.var 5, .nott (.call 37 [.v (.bin .add (.var 10) (.tup [.v (.var 9)])), .v (.var 8)])]) [.ret (.v (.lit (.bl false)))] [], .ifs (.band [.var 5, .cmp .gt (.var 9) (.lit (.int 0)), .call 37 [.v (.bin .add (.var 10) (.tup [.v (.bin .sub (.var 9) (.lit (.int 1)))])), .v (.var 8)]]) [.ret (.v (.lit (.bl false)))] [], .forr (.nm 11) (.rng (.p (.lit (.int 5)))) [.par [16, 17] [.v (.bin .add (.var 9) (.call 1 [.p (.var 0), .v (.lst [.v (.lit (.int 0)), .v (.lit (.int 0)), .v (.lit (.int 1)), .v (.neg (.lit (.int 1))), .v (.neg (.lit (.int 2))), .v (.lit (.int 5))])])), .v (.call 41 [.p (.var 0), .v (.var 8)])], .asg 12 (.v (.call 43 [.v (.var 2), .v (.var 6), .v (.var 7), .v (.var 16), .v (.var 17)])), .ifs (.bor [.cmp .ne (.bi .repr [.p (.call 37 [.v (.bin .add (.var 10) (.tup [.v (.var 16)])), .v (.var 17)])]) (.bi .repr [.p (.var 12)]), .band [.var 12, .var 5, .cmp .lt (.var 16) (.var 9)]]) [.ret (.v (.lit (.bl false)))] []], .ifs (.call 37 [.v (.tup [.v (.lit (.str "lead")), .v (.var 4), .v (.idx (.idx (.var 2) (.var 6)) (.lit (.int 0))), .v (.idx (.idx (.var 2) (.var 6)) (.lit (.int 0))), .v (.bin .pow (.lit (.int 10)) (.lit (.int 40)))]), .v (.var 8)]) [.ret (.v (.lit (.bl false)))] []], .ret (.v (.lit (.bl true)))]
def N_law_hatful : List Str := ["_law_script", "_law_turn", "_law_churn", "_law_item", "_law_own"]
def P_law_hatful : List Str := ["_law_script", "_law_turn"]
def B_law_hatful : List PV.St := [.asg 2 (.v (.bin .add (.lit (.int 52711)) (.bin .mul (.lit (.int 389)) (.var 1)))), .forr (.nm 3) (.it (.p (.slc (.var 0) [] [.lit (.int 9)]))) [.asg 2 (.v (.bin .mod (.bi .int [.p (.bin .add (.bin .mul (.var 2) (.lit (.int 69069))) (.bi .int [.p (.var 3)]))]) (.lit (.int 4294967291))))], .asg 4 (.v (.ite (.cmp .lt (.var 1) (.bi .len [.p (.var 0)])) (.bi .int [.p (.idx (.var 0) (.var 1))]) (.bin .mul (.lit (.int 7)) (.var 1)))), .ret (.p (.lst [.v (.ite (.cmp .ge (.bi .abs [.p (.var 4)]) (.bin .pow (.lit (.int 10)) (.lit (.int 18)))) (.bi .abs [.p (.var 4)]) (.lit (.int 0))), .v (.bin .mod (.bi .int [.p (.bin .add (.var 2) (.var 4))]) (.lit (.int 4294967291)))]))]
def N_law : List Str := ["_law_script", "_law_turn"]
def P_law : List Str := ["_law_script"]
def B_law : List PV.St := [.forr (.nm 1) (.rng (.p (.bi .max2 [.p (.lit (.int 2)), .p (.bi .min2 [.p (.bi .len [.p (.var 0)]), .p (.lit (.int 4))])]))) [.ifs (.nott (.call 44 [.p (.call 45 [.v (.var 0), .v (.var 1)])])) [.ret (.v (.lit (.bl false)))] []], .ret (.v (.lit (.bl true)))]
def lays : List (List Str) := [["name", "stride", "begin"], ["takers", "names", "round", "run_in"], ["name", "count", "mark"]]
def cnames : List Str := ["Taker", "Deal", "Turn"]
def globs : List (Str × D) := [("LONGEST_NAME", (.int 10)), ("ALPHABET", (.str "abcdefghijklmnopqrstuvwxyz")), ("DIGITS", (.str "0123456789")), ("MOST_TAKERS", (.int 8))]
def nms : List Str := ["InvalidText"]
def fis : List Fi := [⟨.fn "_law_take", [true, false], 2⟩,
  ⟨.fn "_law_pull", [true, false], 4⟩,
  ⟨.fn "_law_fresh_labels", [true, false], 6⟩,
  ⟨.fn "_law_drawn_crew", [true, false], 8⟩,
  ⟨.fn "_law_written", [false], 10⟩,
  ⟨.fn "_law_divisor", [false, false], 12⟩,
  ⟨.fn "_law_turns_in", [false], 14⟩,
  ⟨.fn "_law_parts_of", [false, false], 16⟩,
  ⟨.fn "_law_dealt", [false, false], 18⟩,
  ⟨.fn "_law_greatest", [false, false, false], 20⟩,
  ⟨.fn "is_log_shown", [false, false], 22⟩,
  ⟨.fn "is_name", [false], 24⟩,
  ⟨.fn "amount_in", [false], 26⟩,
  ⟨.fn "is_whole", [false], 28⟩,
  ⟨.fn "is_stride", [false], 30⟩,
  ⟨.fn "check_stride", [false], 32⟩,
  ⟨.fn "is_amount", [false], 34⟩,
  ⟨.fn "check_number", [false], 36⟩,
  ⟨.init 0, [true, false, false, false], 38⟩,
  ⟨.fn "taker_in", [false], 40⟩,
  ⟨.fn "takers_in", [false], 42⟩,
  ⟨.fn "check_takers", [false], 44⟩,
  ⟨.fn "common_divisor", [false, false], 46⟩,
  ⟨.fn "common_multiple", [false], 48⟩,
  ⟨.meth 0 "turns_below", [false, false], 50⟩,
  ⟨.meth 1 "all_below", [false, false], 52⟩,
  ⟨.initS 1, [true, false], 54⟩,
  ⟨.stat 1 "read", [false], 56⟩,
  ⟨.fn "deal_written", [false], 58⟩,
  ⟨.fn "is_figure", [false], 60⟩,
  ⟨.fn "is_count", [false], 62⟩,
  ⟨.fn "shows_turn", [false, false, false, false], 64⟩,
  ⟨.fn "is_row_of", [false, false], 66⟩,
  ⟨.fn "shows_lead", [false, false, false, false], 68⟩,
  ⟨.fn "is_lead_shown", [false, false, false], 70⟩,
  ⟨.fn "shows_alike", [false, false, false], 72⟩,
  ⟨.fn "is_unlike_shown", [false, false, false, false], 74⟩,
  ⟨.fn "holds", [false, false], 76⟩,
  ⟨.fn "_law_marred", [true, false], 78⟩,
  ⟨.fn "_law_marred", [true, false], 80⟩,
  ⟨.fn "_law_marred", [true, false], 82⟩,
  ⟨.fn "_law_changed", [true, false], 84⟩,
  ⟨.fn "_law_is_integer", [false], 86⟩,
  ⟨.fn "_law_judged", [false, false, false, false, false], 88⟩,
  ⟨.fn "_law_all_right", [true], 90⟩,
  ⟨.fn "_law_hatful", [false, false], 92⟩,
  ⟨.fn "law", [false], 94⟩]
abbrev c_Taker : Nat := 0
abbrev c_Deal : Nat := 1
abbrev c_Turn : Nat := 2
abbrev i_law_take : Nat := 0
abbrev i_law_pull : Nat := 1
abbrev i_law_fresh_labels : Nat := 2
abbrev i_law_drawn_crew : Nat := 3
abbrev i_law_written : Nat := 4
abbrev i_law_divisor : Nat := 5
abbrev i_law_turns_in : Nat := 6
abbrev i_law_parts_of : Nat := 7
abbrev i_law_dealt : Nat := 8
abbrev i_law_greatest : Nat := 9
abbrev i_is_log_shown : Nat := 10
abbrev i_is_name : Nat := 11
abbrev i_amount_in : Nat := 12
abbrev i_is_whole : Nat := 13
abbrev i_is_stride : Nat := 14
abbrev i_check_stride : Nat := 15
abbrev i_is_amount : Nat := 16
abbrev i_check_number : Nat := 17
abbrev i_Taker_init : Nat := 18
abbrev i_taker_in : Nat := 19
abbrev i_takers_in : Nat := 20
abbrev i_check_takers : Nat := 21
abbrev i_common_divisor : Nat := 22
abbrev i_common_multiple : Nat := 23
abbrev i_Taker_turns_below : Nat := 24
abbrev i_Deal_all_below : Nat := 25
abbrev i_Deal_init : Nat := 26
abbrev i_Deal_read : Nat := 27
abbrev i_deal_written : Nat := 28
abbrev i_is_figure : Nat := 29
abbrev i_is_count : Nat := 30
abbrev i_shows_turn : Nat := 31
abbrev i_is_row_of : Nat := 32
abbrev i_shows_lead : Nat := 33
abbrev i_is_lead_shown : Nat := 34
abbrev i_shows_alike : Nat := 35
abbrev i_is_unlike_shown : Nat := 36
abbrev i_holds : Nat := 37
abbrev i_law_marred_r0 : Nat := 38
abbrev i_law_marred_r1 : Nat := 39
abbrev i_law_marred_r2 : Nat := 40
abbrev i_law_changed : Nat := 41
abbrev i_law_is_integer : Nat := 42
abbrev i_law_judged : Nat := 43
abbrev i_law_all_right : Nat := 44
abbrev i_law_hatful : Nat := 45
abbrev i_law : Nat := 46
def G0 (sps : Nat → PV.Spec) (r : Nat) : Gt := { lay := lays, cn := cnames, fi := fis, gl := globs, room := r, sp := sps, isi := isiN cnames.length, tb := tabs, nm := nms }
end SD

namespace SD
open PySem L2 PV
def isInt : D → Bool | .int _ => true | _ => false
def isAm : D → Bool | .int i => decide (0 ≤ i) | _ => false
def isSt : D → Bool | .int i => decide (1 ≤ i) | _ => false
def sp_is_whole : PV.Spec := dspec (fun d : D => [d]) (fun d => flatD d = true) (fun d => .bl (isInt d))
def sp_is_amount : PV.Spec := dspec (fun d : D => [d]) (fun d => flatD d = true) (fun d => .bl (isAm d))
def sp_is_stride : PV.Spec := dspec (fun d : D => [d]) (fun d => flatD d = true) (fun d => .bl (isSt d))
def sp_check_number : PV.Spec := dspec (fun d : D => [d]) (fun d => flatD d = true ∧ isAm d = true) (fun _ => .non)
def sp_check_stride : PV.Spec := dspec (fun d : D => [d]) (fun d => flatD d = true ∧ isSt d = true) (fun _ => .non)
/-! the letters -/
def ALPHA : Str := "abcdefghijklmnopqrstuvwxyz"
def isNm : D → Bool
  | .str s => decide (0 < s.length) && decide (s.length ≤ 10) && s.cps.toList.all fun c => decide (c ∈ ALPHA.cps.toList)
  | _ => false
def sp_is_name : PV.Spec := dspec (fun d : D => [d]) (fun d => flatD d = true ∧ ∀ s, d = .str s → s.length ≤ LIM) (fun d => .bl (isNm d))
/-! digits -/
def DIG : Str := "0123456789"
def dgv (c : Nat) : Int := (DIG.cps.toList.idxOf c : Nat)
def amountIn (s : Str) : Int :=
  if s.length = 0 ∨ (s.cps.toList.any fun c => !decide (c ∈ DIG.cps.toList)) = true ∨ (s.cps.toList.head? = some 48 ∧ s.length ≠ 1) then -1
  else s.cps.toList.foldl (fun a c => 10 * a + dgv c) 0
def sp_amount_in : PV.Spec := dspec (fun s : Str => [.str s]) (fun s => s.length ≤ 1000) (fun s => .int (amountIn s))
theorem dig_list : DIG.cps.toList = [48, 49, 50, 51, 52, 53, 54, 55, 56, 57] := by decide +kernel
theorem index_dig {c : Nat} (h : c ∈ DIG.cps.toList) : Txt.index0 DIG ⟨#[c]⟩ = some (DIG.cps.toList.idxOf c) := by
  rw [dig_list] at h
  simp only [List.mem_cons, List.not_mem_nil, or_false] at h
  rcases h with rfl | rfl | rfl | rfl | rfl | rfl | rfl | rfl | rfl | rfl <;> decide +kernel
theorem dgv_bd {c : Nat} (h : c ∈ DIG.cps.toList) : 0 ≤ dgv c ∧ dgv c ≤ 9 := by
  unfold dgv
  have h1 : DIG.cps.toList.idxOf c < DIG.cps.toList.length := List.idxOf_lt_length_of_mem h
  rw [dig_list] at h1 ⊢
  simp only [List.length_cons, List.length_nil] at h1
  omega
def digs (cs : List Nat) : Int := cs.foldl (fun a c => 10 * a + dgv c) 0
theorem digs_snoc (cs : List Nat) (c : Nat) : digs (cs ++ [c]) = 10 * digs cs + dgv c := by unfold digs; rw [List.foldl_append]; rfl
theorem digs_bd : ∀ (n : Nat) (cs : List Nat), cs.length = n → (∀ c ∈ cs, c ∈ DIG.cps.toList) → 0 ≤ digs cs ∧ digs cs < 10 ^ n := by
  intro n
  induction n with
  | zero => intro cs h _; cases List.length_eq_zero_iff.mp h; exact ⟨Int.le_refl _, by decide⟩
  | succ n ih =>
    intro cs h hd
    obtain ⟨c, rest, e⟩ : ∃ c rest, cs = rest ++ [c] := by
      have hne : cs ≠ [] := by intro z; subst z; simp at h
      exact ⟨cs.getLast hne, cs.dropLast, (List.dropLast_concat_getLast hne).symm⟩
    subst e
    have hl : rest.length = n := by simpa using h
    obtain ⟨h1, h2⟩ := ih rest hl fun c hc => hd c (by simp [hc])
    have h3 := dgv_bd (hd c (by simp))
    rw [digs_snoc, Int.pow_succ]
    omega
theorem log2_lt {a : Int} {n : Nat} (h0 : 0 ≤ a) (h : a < 10 ^ n) : a.natAbs.log2 ≤ 4 * n := by
  have h1 : a.natAbs < 10 ^ n := by
    have e : ((a.natAbs : Nat) : Int) = a := by omega
    have : ((a.natAbs : Nat) : Int) < ((10 ^ n : Nat) : Int) := by rw [e]; push_cast; exact h
    exact_mod_cast this
  by_cases hz : a.natAbs = 0
  · rw [hz]; simp
  · have h2 : a.natAbs < 2 ^ (4 * n) := Nat.lt_of_lt_of_le h1 (by rw [Nat.pow_mul]; exact Nat.pow_le_pow_left (by decide) n)
    exact Nat.le_of_lt ((Nat.log2_lt hz).mpr h2)
/-! takers -/
structure Tk where
  name : Str
  stride : Int
  begin : Int
def tkD (t : Tk) : D := .obj 0 [.str t.name, .int t.stride, .int t.begin]
structure TkOk (t : Tk) : Prop where
  nm : isNm (.str t.name) = true
  st : 1 ≤ t.stride
  bg : 0 ≤ t.begin
theorem TkOk.len {t : Tk} (h : TkOk t) : t.name.length ≤ 10 := by
  have := h.nm
  unfold isNm at this
  simp only [Bool.and_eq_true, decide_eq_true_eq] at this
  exact this.1.2
def sp_Taker_init : PV.Spec := uspec (fun t : Tk => [.obj 0 [], .str t.name, .int t.stride, .int t.begin]) TkOk false (fun _ => .non) (fun t => [tkD t, .non, .non, .non])
/-- one line -/
def takerIn (s : Str) : D := match Txt.split s " " with
  | [a, b, c] => if isNm (.str a) = true ∧ 1 ≤ amountIn b ∧ 0 ≤ amountIn c then tkD ⟨a, amountIn b, amountIn c⟩ else .non
  | _ => .non
def sp_taker_in : PV.Spec := dspec (fun s : Str => [.str s]) (fun s => s.length ≤ 1000) takerIn
theorem mem_join_len (sep : Str) : ∀ (ts : List Str) (t : Str), t ∈ ts → t.length ≤ (Str.join sep ts).length := PySem.join_mem_le sep
theorem split_lens {s y : Str} : ∀ p ∈ Txt.split s y, p.length ≤ s.length := by
  intro p hp
  have h1 := PySem.StrLaws.join_split s y
  have h2 := mem_join_len y (Txt.split s y) p hp
  rw [h1] at h2
  exact h2
theorem ne3 {n : Nat} (h : n ≠ 3) : (!decide (((n : Nat) : Int) = 3)) = true := by simp; omega
/-! == of rows -/
theorem pds_map {β : Type} {g : β → D} {h : β → PyData} (H : ∀ x, pd (g x) = some (h x)) : ∀ xs : List β, pds (xs.map g) = some (xs.map h)
  | [] => rfl
  | x :: xs => by
    show (match pd (g x), pds (xs.map g) with | some a, some b => some (a :: b) | _, _ => none) = _
    rw [H x, pds_map H xs]; rfl
theorem pd_list {β : Type} {g : β → D} {h : β → PyData} (H : ∀ x, pd (g x) = some (h x)) (xs : List β) : pd (.lst (xs.map g)) = some (.list (xs.map h)) := by
  show (pds (xs.map g)).map PyData.list = _
  rw [pds_map H xs]; rfl
theorem pd_tup {β : Type} {g : β → D} {h : β → PyData} (H : ∀ x, pd (g x) = some (h x)) (xs : List β) : pd (.tup (xs.map g)) = some (.tuple (xs.map h)) := by
  show (pds (xs.map g)).map PyData.tuple = _
  rw [pds_map H xs]; rfl
theorem lay_map {β : Type} {h : β → PyData} {n : Nat} (xs : List β) (H : ∀ x ∈ xs, (h x).canLay0 = true ∧ (h x).depth ≤ n) : PyData.canLayAll0 (xs.map h) = true ∧ PyData.depthAll (xs.map h) ≤ n := by
  induction xs with
  | nil => exact ⟨rfl, Nat.zero_le _⟩
  | cons x xs ih =>
    obtain ⟨i1, i2⟩ := ih fun y hy => H y (by simp [hy])
    obtain ⟨j1, j2⟩ := H x (by simp)
    refine ⟨?_, ?_⟩
    · show ((h x).canLay0 && PyData.canLayAll0 (xs.map h)) = true
      rw [i1, j1]; rfl
    · show max (h x).depth (PyData.depthAll (xs.map h)) ≤ n
      omega
theorem shaped_list {β : Type} {h : β → PyData} {n : Nat} (hn : n < 64) (xs : List β) (H : ∀ x ∈ xs, (h x).canLay0 = true ∧ (h x).depth ≤ n) : SeqAt.shaped (.list (xs.map h)) = true := by
  obtain ⟨i1, i2⟩ := lay_map xs H
  unfold SeqAt.shaped
  rw [Bool.and_eq_true, decide_eq_true_eq]
  refine ⟨i1, ?_⟩
  show PyData.depthAll (xs.map h) + 1 ≤ 64
  omega
theorem shaped_tup {β : Type} {h : β → PyData} {n : Nat} (hn : n < 64) (xs : List β) (H : ∀ x ∈ xs, (h x).canLay0 = true ∧ (h x).depth ≤ n) : SeqAt.shaped (.tuple (xs.map h)) = true := by
  obtain ⟨i1, i2⟩ := lay_map xs H
  unfold SeqAt.shaped
  rw [Bool.and_eq_true, decide_eq_true_eq]
  refine ⟨i1, ?_⟩
  show PyData.depthAll (xs.map h) + 1 ≤ 64
  omega
theorem eqv_nil {xs : List PyData} : PyData.eqv (.list xs) (.list []) = xs.isEmpty := by
  cases xs <;> rfl
theorem eqvAll_map {β : Type} [DecidableEq β] {h : β → PyData} : ∀ (xs ys : List β), (∀ x ∈ xs, ∀ y ∈ ys, PyData.eqv (h x) (h y) = decide (x = y)) → PyData.eqvAll (xs.map h) (ys.map h) = decide (xs = ys)
  | [], [], _ => rfl
  | [], _ :: _, _ => by simp [PyData.eqvAll]
  | _ :: _, [], _ => by simp [PyData.eqvAll]
  | x :: xs, y :: ys, H => by
    show (PyData.eqv (h x) (h y) && PyData.eqvAll (xs.map h) (ys.map h)) = _
    rw [H x (by simp) y (by simp), eqvAll_map xs ys fun a ha b hb => H a (by simp [ha]) b (by simp [hb])]
    simp
/-! numbers -/
theorem bezout (a b : Nat) : ∃ x y : Int, x * a + y * b = (Nat.gcd a b : Nat) := by
  induction a, b using Nat.gcd.induction with
  | H0 b => exact ⟨0, 1, by simp⟩
  | H1 a b ha ih =>
    obtain ⟨x, y, h⟩ := ih
    refine ⟨y - x * ((b / a : Nat) : Int), x, ?_⟩
    rw [Nat.gcd_rec a b, ← h]
    have e : ((b % a : Nat) : Int) = b - a * ((b / a : Nat) : Int) := by
      have := Nat.div_add_mod b a
      have h2 : ((b : Nat) : Int) = ((a * (b / a) + b % a : Nat) : Int) := by rw [this]
      rw [h2, Int.natCast_add, Int.natCast_mul]; omega
    rw [e, Int.sub_mul, Int.mul_sub]
    have e2 : x * ((b / a : Nat) : Int) * a = x * (a * ((b / a : Nat) : Int)) := by rw [Int.mul_assoc, Int.mul_comm ((b / a : Nat) : Int)]
    rw [e2]; omega
def oD : Option Tk → D | some t => tkD t | none => .non
def takerO (s : Str) : Option Tk := match Txt.split s " " with
  | [a, b, c] => if isNm (.str a) = true ∧ 1 ≤ amountIn b ∧ 0 ≤ amountIn c then some ⟨a, amountIn b, amountIn c⟩ else none
  | _ => none
theorem takerIn_o (s : Str) : takerIn s = oD (takerO s) := by
  unfold takerIn takerO
  generalize Txt.split s " " = ws
  rcases ws with _ | ⟨a, _ | ⟨b, _ | ⟨c, _ | ⟨d, ws⟩⟩⟩⟩
  · rfl
  · rfl
  · rfl
  · show (if isNm (.str a) = true ∧ 1 ≤ amountIn b ∧ 0 ≤ amountIn c then _ else _) = oD (if isNm (.str a) = true ∧ 1 ≤ amountIn b ∧ 0 ≤ amountIn c then _ else _)
    split <;> rfl
  · rfl
theorem takerO_ok {s : Str} {t : Tk} (h : takerO s = some t) : TkOk t := by
  unfold takerO at h
  split at h
  · split at h
    · rename_i g
      cases h
      exact ⟨g.1, g.2.1, g.2.2⟩
    · cases h
  · cases h
def allSome : List (Option Tk) → Option (List Tk)
  | [] => some []
  | some t :: r => (allSome r).map (t :: ·)
  | none :: _ => none
theorem allSome_map : ∀ {os : List (Option Tk)} {ts : List Tk}, allSome os = some ts → os = ts.map some
  | [], ts, h => by cases h; rfl
  | some t :: r, ts, h => by
    cases q : allSome r with
    | none => rw [allSome, q] at h; cases h
    | some us =>
      rw [allSome, q] at h
      cases h
      rw [allSome_map q]; rfl
  | none :: r, ts, h => by cases h
theorem allSome_none : ∀ {os : List (Option Tk)}, allSome os = none → os.any Option.isNone = true
  | [], h => by cases h
  | some t :: r, h => by
    cases q : allSome r with
    | none => simpa using allSome_none q
    | some us => rw [allSome, q] at h; cases h
  | none :: r, h => rfl
def takersO (s : Str) : Option (List Tk) :=
  if (Txt.split s "\n").length ≤ 8 then (match allSome ((Txt.split s "\n").map takerO) with
    | some ts => if (ts.map (·.name)).Nodup then some ts else none
    | none => none) else none
def tsD : Option (List Tk) → D | some ts => .lst (ts.map tkD) | none => .non
theorem dst_nodup (ys : List Str) : (dst ys).length = ys.length ↔ ys.Nodup := by
  refine snoc_ind (P := fun ys => (dst ys).length = ys.length ↔ ys.Nodup) (by simp [dst]) (fun l x ih => ?_) ys
  rw [dst_snoc, dst_any]
  have dl := dst_len l
  by_cases h : l.any (· == x) = true
  · rw [if_pos h]
    have hx : x ∈ l := by
      obtain ⟨y, hy, e⟩ := List.any_eq_true.mp h
      rwa [← eq_of_beq e]
    constructor
    · intro z; simp at z; omega
    · intro z
      rw [List.nodup_append] at z
      exact absurd rfl (z.2.2 x hx x (by simp))
  · rw [if_neg h]
    have hx : x ∉ l := fun m => h (List.any_eq_true.mpr ⟨x, m, beq_self_eq_true x⟩)
    rw [List.length_append, List.length_append, List.nodup_append]
    constructor
    · intro z
      exact ⟨ih.mp (by simpa using z), by simp, fun a ha b hb e => by subst e; simp at hb; subst hb; exact hx ha⟩
    · intro z
      have := ih.mpr z.1
      simp; omega
def sp_takers_in : PV.Spec := dspec (fun s : Str => [.str s]) (fun s => s.length ≤ 100000 ∧ (Txt.split s "\n").length ≤ LIM ∧ ∀ l ∈ Txt.split s "\n", l.length ≤ 1000) (fun s => tsD (takersO s))
theorem inD_str (s : Str) (ss : List Str) : inD (.str s) (ss.map .str) = decide (s ∈ ss) := by
  unfold inD
  rw [List.any_map]
  induction ss with
  | nil => rfl
  | cons x r ih =>
    rw [List.any_cons, ih]
    show (decide (x = s) || decide (s ∈ r)) = decide (s ∈ x :: r)
    by_cases e : x = s
    · subst e; simp
    · have : s ≠ x := fun z => e z.symm
      simp [e, this]
/-- takers as a deal wants them -/
structure TsOk (ts : List Tk) : Prop where
  one : 1 ≤ ts.length
  few : ts.length ≤ 8
  ok : ∀ t ∈ ts, TkOk t
  nd : (ts.map (·.name)).Nodup
  big : ∀ t ∈ ts, t.stride < 2 ^ 1000
def sp_check_takers : PV.Spec := dspec (fun ts : List Tk => [.tup (ts.map tkD)]) TsOk (fun _ => .non)
def sp_common_divisor : PV.Spec := dspec (fun p : Nat × Nat => [.int p.1, .int p.2]) (fun _ => True) (fun p => .int (Nat.gcd p.1 p.2))
def lcmL (ns : List Nat) : Nat := ns.foldl Nat.lcm 1
theorem lcmL_snoc (ns : List Nat) (n : Nat) : lcmL (ns ++ [n]) = Nat.lcm (lcmL ns) n := by unfold lcmL; rw [List.foldl_append]; rfl
theorem div_mul_lcm (a b : Nat) : a / Nat.gcd a b * b = Nat.lcm a b := by
  unfold Nat.lcm
  rw [Nat.mul_comm, Nat.mul_comm a b, Nat.mul_div_assoc b (Nat.gcd_dvd_left a b)]
theorem lcmL_bd : ∀ (ns : List Nat) (k : Nat), (∀ n ∈ ns, 1 ≤ n ∧ n < 2 ^ k) → 1 ≤ lcmL ns ∧ lcmL ns < 2 ^ (k * ns.length + 1) := by
  intro ns k
  refine snoc_ind (P := fun ns => (∀ n ∈ ns, 1 ≤ n ∧ n < 2 ^ k) → 1 ≤ lcmL ns ∧ lcmL ns < 2 ^ (k * ns.length + 1)) (fun _ => ⟨Nat.le_refl _, by simp [lcmL]⟩) (fun l x ih h => ?_) ns
  obtain ⟨h1, h2⟩ := ih fun n hn => h n (by simp [hn])
  obtain ⟨h3, h4⟩ := h x (by simp)
  rw [lcmL_snoc]
  refine ⟨Nat.lcm_pos h1 h3, ?_⟩
  have h5 : Nat.lcm (lcmL l) x ≤ lcmL l * x := Nat.lcm_le_mul h1 h3
  refine Nat.lt_of_le_of_lt h5 ?_
  have e : 2 ^ (k * (l ++ [x]).length + 1) = 2 ^ (k * l.length + 1) * 2 ^ k := by
    rw [← Nat.pow_add]; congr 1; simp [Nat.mul_add]; omega
  rw [e]
  exact Nat.mul_lt_mul_of_lt_of_lt h2 h4
theorem log2_nat {n k : Nat} (h : n < 2 ^ (k + 1)) : ((n : Nat) : Int).natAbs.log2 ≤ k := by
  rw [Int.natAbs_natCast]
  by_cases z : n = 0
  · subst z; simp
  · exact Nat.le_of_lt_succ ((Nat.log2_lt z).mpr h)
def sp_common_multiple : PV.Spec := dspec (fun ns : List Nat => [.lst (ns.map fun n => .int (n : Nat))]) (fun ns => ns.length ≤ 8 ∧ ∀ n ∈ ns, 1 ≤ n ∧ n < 2 ^ 1000) (fun ns => .int (lcmL ns : Nat))
def tbl (t : Tk) (m : Int) : Int := if m ≤ t.begin then 0 else (m - t.begin + t.stride - 1) / t.stride
theorem log2_int {a : Int} {k : Nat} (h0 : 0 ≤ a) (h : a < 2 ^ (k + 1)) : a.natAbs.log2 ≤ k := by
  obtain ⟨n, rfl⟩ := Int.eq_ofNat_of_zero_le h0
  refine log2_nat ?_
  have : ((n : Nat) : Int) < ((2 ^ (k + 1) : Nat) : Int) := by rw [Int.natCast_pow]; exact h
  exact_mod_cast this
def sp_Taker_turns_below : PV.Spec := dspec (fun p : Tk × Int => [tkD p.1, .int p.2]) (fun p => 1 ≤ p.1.stride ∧ p.1.stride < 2 ^ 1000) (fun p => .int (tbl p.1 p.2))
def albl (ts : List Tk) (m : Int) : Int := (ts.map fun t => tbl t m).sum
def sp_Deal_all_below : PV.Spec := dspec (fun p : (List Tk × List D) × Int => [.obj 1 (.tup (p.1.1.map tkD) :: p.1.2), .int p.2]) (fun p => TsOk p.1.1) (fun p => .int (albl p.1.1 p.2))
def maxB (ts : List Tk) : Int := ((ts.map (·.begin)).max?).getD 0
theorem maxB_of {ts : List Tk} {m : Int} (h1 : m ∈ ts.map (·.begin)) (h2 : ∀ y ∈ ts.map (·.begin), y ≤ m) : m = maxB ts := by
  have : (ts.map (·.begin)).max? = some m := List.max?_eq_some_iff.mpr ⟨h1, h2⟩
  unfold maxB
  rw [this]; rfl
def wholeT (ts : List Tk) : Int := (lcmL (ts.map fun t => t.stride.toNat) : Nat)
def rndT (ts : List Tk) : Int := (ts.map fun t => wholeT ts / t.stride).sum
def runT (ts : List Tk) : Int := albl ts (maxB ts)
def dlD (ts : List Tk) : D := .obj 1 [.tup (ts.map tkD), .tpn (ts.map fun t => .str t.name), .int (rndT ts), .int (runT ts)]
def sp_Deal_init : PV.Spec := uspec (fun ts : List Tk => [.obj 1 [], .tup (ts.map tkD)]) TsOk false (fun _ => .non) (fun ts => [dlD ts, .non])
def sp_Deal_read : PV.Spec := uspec (fun p : Str × List Tk => [.str p.1]) (fun p => takersO p.1 = some p.2 ∧ TsOk p.2 ∧ p.1.length ≤ 100000 ∧ (Txt.split p.1 "\n").length ≤ LIM ∧ ∀ l ∈ Txt.split p.1 "\n", l.length ≤ 1000) false (fun p => dlD p.2) (fun _ => [.non])
/-! texts of takers, read back -/
theorem str_ext {x y : Str} (h : x.cps.toList = y.cps.toList) : x = y := Str.ext' (Array.toList_inj.mp h)
theorem app_list (x y : Str) : (x ++ y).cps.toList = x.cps.toList ++ y.cps.toList := by
  show (x.cps ++ y.cps).toList = _
  simp
theorem one_list (c : Nat) : (⟨#[c]⟩ : Str).cps.toList = [c] := rfl
/-- parts without c, joined by c, tell the parts -/
theorem join_inj {c : Nat} : ∀ {xs ys : List Str}, xs ≠ [] → ys ≠ [] → (∀ x ∈ xs, c ∉ x.cps.toList) → (∀ y ∈ ys, c ∉ y.cps.toList) → Str.join ⟨#[c]⟩ xs = Str.join ⟨#[c]⟩ ys → xs = ys := by
  have free_app : ∀ {a b : List Nat} {r s : List Nat}, c ∉ a → c ∉ b → a ++ c :: r = b ++ c :: s → a = b ∧ r = s := by
    intro a
    induction a with
    | nil =>
      intro b r s _ hb e
      cases b with
      | nil => exact ⟨rfl, by simpa using e⟩
      | cons y b => simp at e; exact absurd (by simp [e.1]) hb
    | cons x a ih =>
      intro b r s ha hb e
      cases b with
      | nil => simp at e; exact absurd (by simp [e.1]) ha
      | cons y b =>
        simp at e
        obtain ⟨e1, e2⟩ := ih (fun z => ha (by simp [z])) (fun z => hb (by simp [z])) e.2
        exact ⟨by rw [e.1, e1], e2⟩
  have no : ∀ {a b s : List Nat}, c ∉ a → a ≠ b ++ c :: s := by
    intro a b s ha e
    apply ha; rw [e]; simp
  intro xs
  induction xs with
  | nil => intro ys h; exact absurd rfl h
  | cons x xs ih =>
    intro ys _ hy hx hys e
    cases ys with
    | nil => exact absurd rfl hy
    | cons y ys =>
      cases xs with
      | nil =>
        cases ys with
        | nil => exact congrArg (· :: []) e
        | cons y2 ys =>
          have e : x = y ++ ⟨#[c]⟩ ++ Str.join ⟨#[c]⟩ (y2 :: ys) := e
          have := congrArg (fun s : Str => s.cps.toList) e
          simp only [app_list, one_list, List.append_assoc, List.singleton_append] at this
          exact absurd this (no (hx x (by simp)))
      | cons x2 xs =>
        cases ys with
        | nil =>
          have e : x ++ ⟨#[c]⟩ ++ Str.join ⟨#[c]⟩ (x2 :: xs) = y := e
          have := congrArg (fun s : Str => s.cps.toList) e
          simp only [app_list, one_list, List.append_assoc, List.singleton_append] at this
          exact absurd this.symm (no (hys y (by simp)))
        | cons y2 ys =>
          have e : x ++ ⟨#[c]⟩ ++ Str.join ⟨#[c]⟩ (x2 :: xs) = y ++ ⟨#[c]⟩ ++ Str.join ⟨#[c]⟩ (y2 :: ys) := e
          have := congrArg (fun s : Str => s.cps.toList) e
          simp only [app_list, one_list, List.append_assoc, List.singleton_append] at this
          obtain ⟨e1, e2⟩ := free_app (hx x (by simp)) (hys y (by simp)) this
          have := ih (ys := y2 :: ys) (by simp) (by simp) (fun z hz => hx z (by simp [hz])) (fun z hz => hys z (by simp [hz])) (str_ext e2)
          rw [str_ext e1, this]
theorem split_ne (x : Str) (c : Nat) : Txt.split x ⟨#[c]⟩ ≠ [] := by
  intro h
  have h1 := PySem.StrLaws.join_split x ⟨#[c]⟩
  unfold Txt.split at h
  split at h
  · cases h
  · split at h
    · cases h
    · rw [PySem.StrLaws.partsBetween_eq] at h
      generalize Builtin.Str.occurrences x ⟨#[c]⟩ 0 x.length (x.length + 1) = l at h
      cases l with
      | nil => cases h
      | cons a l => cases h
theorem split_join {c : Nat} {ts : List Str} (h : ts ≠ []) (hf : ∀ t ∈ ts, c ∉ t.cps.toList) : Txt.split (Str.join ⟨#[c]⟩ ts) ⟨#[c]⟩ = ts :=
  join_inj (split_ne _ c) h (PySem.StrLaws.split_free _ c) hf (PySem.StrLaws.join_split _ _)
theorem sp_str : (Str.ofString " ") = ⟨#[32]⟩ := by decide +kernel
theorem nl_str : (Str.ofString "\n") = ⟨#[10]⟩ := by decide +kernel
theorem num_free (c : Nat) (hc : c ≠ 45 ∧ (c < 48 ∨ 57 < c)) (i : Int) : c ∉ (Str.ofString (toString i)).cps.toList := PyProof.Rows.int_text_free' c hc i
theorem dgv_digit : ∀ d : Nat, d < 10 → (Nat.digitChar d).toNat ∈ DIG.cps.toList ∧ dgv (Nat.digitChar d).toNat = d := by
  unfold dgv
  rw [dig_list]
  decide
theorem digs_num (m : Nat) : digs ((Nat.toDigits 10 m).map Char.toNat) = m ∧ (∀ c ∈ (Nat.toDigits 10 m).map Char.toNat, c ∈ DIG.cps.toList) ∧ (m ≠ 0 → ((Nat.toDigits 10 m).map Char.toNat).head? ≠ some 48) ∧ (Nat.toDigits 10 m).map Char.toNat ≠ [] := by
  induction m using Nat.strongRecOn with
  | _ m ih =>
    by_cases h : m < 10
    · rw [Nat.toDigits_of_lt_base h]
      obtain ⟨d1, d2⟩ := dgv_digit m h
      refine ⟨?_, ?_, ?_, by simp⟩
      · show 10 * (0 : Int) + dgv (Nat.digitChar m).toNat = m
        rw [d2]; omega
      · intro c hc
        simp at hc
        subst hc; exact d1
      · intro hm
        have : ∀ d : Nat, d < 10 → d ≠ 0 → (Nat.digitChar d).toNat ≠ 48 := by decide
        simpa using this m h hm
    · have hm : m % 10 < 10 := Nat.mod_lt m (by decide)
      obtain ⟨d1, d2⟩ := dgv_digit (m % 10) hm
      obtain ⟨i1, i2, i3, i4⟩ := ih (m / 10) (by omega)
      rw [Nat.toDigits_of_base_le (by decide) (by omega : 10 ≤ m), List.map_append]
      refine ⟨?_, ?_, ?_, by simp⟩
      · show digs ((Nat.toDigits 10 (m / 10)).map Char.toNat ++ [(Nat.digitChar (m % 10)).toNat]) = m
        rw [digs_snoc, i1, d2]; omega
      · intro c hc
        rcases List.mem_append.mp hc with hc | hc
        · exact i2 c hc
        · simp at hc; subst hc; exact d1
      · intro _
        rw [List.head?_append]
        cases q : ((Nat.toDigits 10 (m / 10)).map Char.toNat).head? with
        | none => exact absurd (List.head?_eq_none_iff.mp q) i4
        | some c =>
          have := i3 (by omega)
          rw [q] at this
          simpa using this
theorem num_list (m : Nat) : (Str.ofString (toString ((m : Nat) : Int))).cps.toList = (Nat.toDigits 10 m).map Char.toNat := PySem.W.KIN.signs_num m
theorem amountIn_num {n : Int} (h : 0 ≤ n) : amountIn (Str.ofString (toString n)) = n := by
  obtain ⟨m, rfl⟩ := Int.eq_ofNat_of_zero_le h
  obtain ⟨h1, h2, h3, h4⟩ := digs_num m
  unfold amountIn
  have len : (Str.ofString (toString ((m : Nat) : Int))).length = ((Nat.toDigits 10 m).map Char.toNat).length := by
    rw [← num_list]; simp [Str.length]
  rw [if_neg ?_]
  · show digs _ = _
    rw [num_list]; exact h1
  · rintro (z | z | ⟨z1, z2⟩)
    · rw [len] at z
      exact h4 (List.length_eq_zero_iff.mp z)
    · rw [List.any_eq_true] at z
      obtain ⟨c, c1, c2⟩ := z
      rw [num_list] at c1
      simp [h2 c c1] at c2
    · rw [num_list] at z1
      by_cases e : m = 0
      · subst e
        apply z2
        decide +kernel
      · exact h3 e z1
/-- a taker's text -/
def lineT (t : Tk) : Str := t.name ++ Str.ofString " " ++ Str.ofString (toString t.stride) ++ Str.ofString " " ++ Str.ofString (toString t.begin)
theorem nm_free {s : Str} (h : isNm (.str s) = true) {c : Nat} (hc : c < 97) : c ∉ s.cps.toList := by
  intro hm
  unfold isNm at h
  simp only [Bool.and_eq_true] at h
  have := of_decide_eq_true (List.all_eq_true.mp h.2 c hm)
  have al : ∀ x ∈ ALPHA.cps.toList, 97 ≤ x := by decide +kernel
  exact absurd (al c this) (by omega)
theorem takerO_line {t : Tk} (h : TkOk t) : takerO (lineT t) = some t := by
  have e : lineT t = Str.join ⟨#[32]⟩ [t.name, Str.ofString (toString t.stride), Str.ofString (toString t.begin)] := by
    unfold lineT
    rw [sp_str]
    apply str_ext
    show _ = (t.name ++ ⟨#[32]⟩ ++ (Str.ofString (toString t.stride) ++ ⟨#[32]⟩ ++ Str.ofString (toString t.begin))).cps.toList
    simp only [app_list, List.append_assoc]
  have s1 : Txt.split (lineT t) (Str.ofString " ") = [t.name, Str.ofString (toString t.stride), Str.ofString (toString t.begin)] := by
    rw [e, sp_str]
    refine split_join (by simp) fun x hx => ?_
    simp at hx
    rcases hx with rfl | rfl | rfl
    · exact nm_free h.nm (by decide)
    · exact num_free 32 (by decide) _
    · exact num_free 32 (by decide) _
  unfold takerO
  rw [show Txt.split (lineT t) " " = _ from s1]
  have h1 := h.st
  have h2 := h.bg
  show (if isNm (.str t.name) = true ∧ 1 ≤ amountIn (Str.ofString (toString t.stride)) ∧ 0 ≤ amountIn (Str.ofString (toString t.begin)) then some (⟨t.name, amountIn (Str.ofString (toString t.stride)), amountIn (Str.ofString (toString t.begin))⟩ : Tk) else none) = _
  rw [amountIn_num (by omega), amountIn_num h2, if_pos ⟨h.nm, h1, h2⟩]
def textT (ts : List Tk) : Str := Str.join ⟨#[10]⟩ (ts.map lineT)
theorem line_free {t : Tk} (h : TkOk t) : 10 ∉ (lineT t).cps.toList := by
  unfold lineT
  rw [sp_str]
  simp only [app_list, List.mem_append, one_list, List.mem_singleton]
  rintro ((((z | z) | z) | z) | z)
  · exact nm_free h.nm (by decide) z
  · cases z
  · exact num_free 10 (by decide) _ z
  · cases z
  · exact num_free 10 (by decide) _ z
theorem split_text {ts : List Tk} (h : TsOk ts) : Txt.split (textT ts) (Str.ofString "\n") = ts.map lineT := by
  unfold textT
  rw [nl_str]
  refine split_join ?_ fun x hx => ?_
  · intro z
    have := h.one
    rw [List.map_eq_nil_iff] at z
    subst z; simp at this
  · obtain ⟨t, ht, rfl⟩ := List.mem_map.mp hx
    exact line_free (h.ok t ht)
theorem allSome_of : ∀ {ts : List Tk}, allSome (ts.map some) = some ts
  | [] => rfl
  | t :: ts => by
    show (allSome (ts.map some)).map (t :: ·) = _
    rw [allSome_of]; rfl
theorem takersO_text {ts : List Tk} (h : TsOk ts) : takersO (textT ts) = some ts := by
  unfold takersO
  rw [show Txt.split (textT ts) "\n" = _ from split_text h, List.length_map, if_pos h.few, List.map_map]
  have e : ts.map (takerO ∘ lineT) = ts.map some := List.map_congr_left fun t ht => takerO_line (h.ok t ht)
  rw [e, allSome_of]
  show (if (ts.map (·.name)).Nodup then some ts else none) = _
  rw [if_pos h.nd]
theorem len_app (x y : Str) : (x ++ y).length = x.length + y.length := by
  have := congrArg List.length (app_list x y)
  simpa [Str.length] using this
theorem len_num {a : Int} (h : Bd 1000 a) : (Str.ofString (toString a)).length ≤ 303 := by
  have h2 : a.natAbs < 10 ^ 302 := Nat.lt_of_lt_of_le h (by decide +kernel)
  have := int_text_length_le10 (by decide) h2
  rw [ofString_length]; exact this
theorem len_line {t : Tk} (h : TkOk t) (h1 : Bd 1000 t.stride) (h2 : Bd 1000 t.begin) : (lineT t).length ≤ 700 := by
  have a := h.len
  have b := len_num h1
  have c := len_num h2
  have e : (Str.ofString " ").length = 1 := by decide +kernel
  unfold lineT
  rw [len_app, len_app, len_app, len_app, e]
  omega
theorem len_join {sep : Str} {m : Nat} (hs : sep.length = 1) : ∀ {xs : List Str}, (∀ x ∈ xs, x.length ≤ m) → (Str.join sep xs).length ≤ xs.length * (m + 1)
  | [], _ => Nat.zero_le _
  | [x], h => by
    have := h x (by simp)
    show x.length ≤ 1 * (m + 1)
    omega
  | x :: y :: r, h => by
    have h1 := h x (by simp)
    have h2 := len_join hs (xs := y :: r) fun z hz => h z (List.mem_cons_of_mem _ hz)
    show (x ++ sep ++ Str.join sep (y :: r)).length ≤ (r.length + 1 + 1) * (m + 1)
    rw [len_app, len_app, hs]
    rw [Nat.add_mul (r.length + 1)]
    have h2 : (Str.join sep (y :: r)).length ≤ (r.length + 1) * (m + 1) := h2
    omega
theorem sum_le {m : Nat} : ∀ {ns : List Nat}, (∀ n ∈ ns, n ≤ m) → ns.sum ≤ ns.length * m
  | [], _ => by simp
  | n :: ns, h => by
    have h1 := h n (by simp)
    have h2 := sum_le (ns := ns) fun z hz => h z (by simp [hz])
    rw [List.sum_cons, List.length_cons, Nat.add_mul]; omega
theorem txt_join (sep : Str) (l : List Str) : Txt.join sep l = Str.join sep l := eq_of_beq (PyProof.Rows.join_plain_closes sep l)
def getT (ts : List Tk) (i : Nat) : Tk := ts.getD i ⟨"", 0, 0⟩
theorem getT_at {ts : List Tk} {i : Nat} (h : i < ts.length) : ts[i]? = some (getT ts i) := by
  unfold getT
  rw [List.getD_eq_getElem?_getD, List.getElem?_eq_getElem h]; rfl
theorem getT_mem {ts : List Tk} {i : Nat} (h : i < ts.length) : getT ts i ∈ ts := List.mem_of_getElem? (getT_at h)
theorem TsOk.sts {ts : List Tk} (h : TsOk ts) : ∀ t ∈ ts, 1 ≤ t.stride := fun t ht => (h.ok t ht).st
def sp_check_deal : PV.Spec := dspec (fun ts : List Tk => [dlD ts]) (fun _ => True) (fun _ => .non)
def sp_Deal_place : PV.Spec := dspec (fun p : List Tk × Nat => [dlD p.1, .str (getT p.1 p.2).name]) (fun p => TsOk p.1 ∧ p.2 < p.1.length) (fun p => .int (p.2 : Nat))
structure Two (ts : List Tk) (i j : Nat) : Prop where
  ok : TsOk ts
  hi : i < ts.length
  hj : j < ts.length
  ne : i ≠ j
theorem Two.swap {ts : List Tk} {i j : Nat} (h : Two ts i j) : Two ts j i := ⟨h.ok, h.hj, h.hi, h.ne.symm⟩
def sp_check_two : PV.Spec := dspec (fun p : List Tk × Nat × Nat => [dlD p.1, .str (getT p.1 p.2.1).name, .str (getT p.1 p.2.2).name]) (fun p => Two p.1 p.2.1 p.2.2) (fun p => .tup [.int (p.2.1 : Nat), .int (p.2.2 : Nat)])
def limT (ts : List Tk) (i j : Nat) : Int := (getT ts j).begin - (getT ts i).begin - (if j < i then 1 else 0)
def divT (ts : List Tk) (i j : Nat) : Nat := Nat.gcd (getT ts i).stride.toNat (getT ts j).stride.toNat
theorem ixTk {ts : List Tk} {i : Nat} (h : i < ts.length) : idxD (.tup (ts.map tkD)) (Int.ofNat i) = some (tkD (getT ts i)) := ixT i (by rw [List.getElem?_map, getT_at h]; rfl)
def sp_limit_of : PV.Spec := dspec (fun p : List Tk × Nat × Nat => [dlD p.1, .int (p.2.1 : Nat), .int (p.2.2 : Nat)]) (fun p => Two p.1 p.2.1 p.2.2) (fun p => .int (limT p.1 p.2.1 p.2.2))
def sp_divisor_of : PV.Spec := dspec (fun p : List Tk × Nat × Nat => [dlD p.1, .int (p.2.1 : Nat), .int (p.2.2 : Nat)]) (fun p => Two p.1 p.2.1 p.2.2) (fun p => .int (divT p.1 p.2.1 p.2.2 : Nat))
def cellT (ts : List Tk) (i j : Nat) : Int := limT ts i j / (divT ts i j : Nat)
def sp_cell_of : PV.Spec := dspec (fun p : List Tk × Nat × Nat => [dlD p.1, .int (p.2.1 : Nat), .int (p.2.2 : Nat)]) (fun p => Two p.1 p.2.1 p.2.2) (fun p => .int (cellT p.1 p.2.1 p.2.2))
def sp_cell : PV.Spec := dspec (fun p : List Tk × Nat × Nat => [dlD p.1, .str (getT p.1 p.2.1).name, .str (getT p.1 p.2.2).name]) (fun p => Two p.1 p.2.1 p.2.2) (fun p => .int (cellT p.1 p.2.1 p.2.2))
/-! the order of turns -/
def markT (ts : List Tk) (p : Nat) (c : Int) : Int := (getT ts p).begin + c * (getT ts p).stride
def cntAt (ts : List Tk) (p : Nat) (c : Int) (q : Nat) : Int :=
  if q = p then c else if q < p then tbl (getT ts q) (markT ts p c + 1) else tbl (getT ts q) (markT ts p c)
def rankT (ts : List Tk) (p : Nat) (c : Int) : Int := ((List.range ts.length).map (cntAt ts p c)).sum
def befT (ts : List Tk) (q : Nat) (d : Int) (p : Nat) (c : Int) : Prop := markT ts q d < markT ts p c ∨ (markT ts q d = markT ts p c ∧ q < p)
theorem tbl_nn {t : Tk} (h : 1 ≤ t.stride) (m : Int) : 0 ≤ tbl t m := by
  unfold tbl
  split
  · omega
  · exact Int.ediv_nonneg (by omega) (by omega)
theorem tbl_lt {t : Tk} (h : 1 ≤ t.stride) {c m : Int} (hc : 0 ≤ c) : c < tbl t m ↔ t.begin + c * t.stride < m := by
  have hm : 0 ≤ c * t.stride := Int.mul_nonneg hc (by omega)
  unfold tbl
  split
  · omega
  · have e : c < (m - t.begin + t.stride - 1) / t.stride ↔ (c + 1) * t.stride ≤ m - t.begin + t.stride - 1 := Int.le_ediv_iff_mul_le (by omega)
    rw [e, Int.add_mul]
    omega
theorem tbl_mono {t : Tk} (h : 1 ≤ t.stride) {m n : Int} (e : m ≤ n) : tbl t m ≤ tbl t n := by
  apply Int.not_lt.mp
  intro z
  have := (tbl_lt h (tbl_nn h n)).mp z
  have h2 := (tbl_lt h (tbl_nn h n)).mpr (Int.lt_of_lt_of_le this e)
  omega
theorem cntAt_nn {ts : List Tk} (hs : ∀ t ∈ ts, 1 ≤ t.stride) {p q : Nat} {c : Int} (hc : 0 ≤ c) (hq : q < ts.length) : 0 ≤ cntAt ts p c q := by
  have h := hs _ (getT_mem hq)
  unfold cntAt
  split
  · exact hc
  · split <;> exact tbl_nn h _
theorem cntAt_lt {ts : List Tk} (hs : ∀ t ∈ ts, 1 ≤ t.stride) {p q : Nat} {c d : Int} (hq : q < ts.length) (hd : 0 ≤ d) : d < cntAt ts p c q ↔ befT ts q d p c := by
  have h := hs _ (getT_mem hq)
  unfold cntAt befT
  by_cases e : q = p
  · subst e
    rw [if_pos rfl]
    unfold markT
    constructor
    · intro z
      left
      have : d * (getT ts q).stride < c * (getT ts q).stride := Int.mul_lt_mul_of_pos_right z (by omega)
      omega
    · rintro (z | z)
      · exact Int.lt_of_mul_lt_mul_right (by omega : d * (getT ts q).stride < c * (getT ts q).stride) (by omega)
      · omega
  · rw [if_neg e]
    by_cases e2 : q < p
    · rw [if_pos e2, tbl_lt h hd]
      show markT ts q d < _ ↔ _
      omega
    · rw [if_neg e2, tbl_lt h hd]
      show markT ts q d < _ ↔ _
      omega
theorem befT_trans {ts : List Tk} {q p r : Nat} {d c e : Int} (h : befT ts q d p c) (h' : befT ts p c r e) : befT ts q d r e := by
  unfold befT at *; omega
theorem le_of_lts {a b : Int} (h : ∀ d : Int, 0 ≤ d → d < a → d < b) (ha : 0 ≤ a) (hb : 0 ≤ b) : a ≤ b := by
  apply Int.not_lt.mp
  intro z
  have := h b hb z
  omega
theorem sum_le_sum {α : Type} {f g : α → Int} : ∀ {xs : List α}, (∀ x ∈ xs, f x ≤ g x) → (xs.map f).sum ≤ (xs.map g).sum
  | [], _ => Int.le_refl _
  | x :: xs, h => by
    have h1 := h x (by simp)
    have h2 := sum_le_sum (xs := xs) fun y hy => h y (by simp [hy])
    simp only [List.map_cons, List.sum_cons]; omega
theorem sum_lt_sum {α : Type} {f g : α → Int} : ∀ {xs : List α}, (∀ x ∈ xs, f x ≤ g x) → (∃ x ∈ xs, f x < g x) → (xs.map f).sum < (xs.map g).sum
  | [], _, h => by obtain ⟨x, hx, _⟩ := h; cases hx
  | x :: xs, h, ⟨y, hy, hl⟩ => by
    have h1 := h x (by simp)
    have h3 : ∀ y ∈ xs, f y ≤ g y := fun y hy => h y (by simp [hy])
    simp only [List.map_cons, List.sum_cons]
    rcases List.mem_cons.mp hy with rfl | hy
    · have h2 := sum_le_sum h3; omega
    · have h2 := sum_lt_sum h3 ⟨y, hy, hl⟩; omega
theorem rank_lt {ts : List Tk} (hs : ∀ t ∈ ts, 1 ≤ t.stride) {p q : Nat} {c d : Int} (hq : q < ts.length) (hc : 0 ≤ c) (hd : 0 ≤ d) (h : befT ts q d p c) : rankT ts q d < rankT ts p c := by
  refine sum_lt_sum (fun r hr => ?_) ⟨q, List.mem_range.mpr hq, ?_⟩
  · have hr := List.mem_range.mp hr
    refine le_of_lts (fun e he z => ?_) (cntAt_nn hs hd hr) (cntAt_nn hs hc hr)
    exact (cntAt_lt hs hr he).mpr (befT_trans ((cntAt_lt hs hr he).mp z) h)
  · have := (cntAt_lt hs hq hd).mpr h
    unfold cntAt at this ⊢
    rw [if_pos rfl]
    exact this
theorem mark_inj {ts : List Tk} (hs : ∀ t ∈ ts, 1 ≤ t.stride) {p : Nat} {c d : Int} (hp : p < ts.length) (h : markT ts p c = markT ts p d) : c = d := by
  have h1 := hs _ (getT_mem hp)
  unfold markT at h
  have : c * (getT ts p).stride = d * (getT ts p).stride := by omega
  exact Int.eq_of_mul_eq_mul_right (by omega) this
theorem bef_or {ts : List Tk} (hs : ∀ t ∈ ts, 1 ≤ t.stride) {p q : Nat} {c d : Int} (hp : p < ts.length) : befT ts q d p c ∨ befT ts p c q d ∨ (q = p ∧ d = c) := by
  unfold befT
  by_cases e : q = p
  · subst e
    by_cases z : markT ts q d = markT ts q c
    · exact .inr (.inr ⟨rfl, mark_inj hs hp z⟩)
    · omega
  · omega
theorem rank_iff {ts : List Tk} (hs : ∀ t ∈ ts, 1 ≤ t.stride) {p q : Nat} {c d : Int} (hp : p < ts.length) (hq : q < ts.length) (hc : 0 ≤ c) (hd : 0 ≤ d) : rankT ts q d < rankT ts p c ↔ befT ts q d p c := by
  refine ⟨fun h => ?_, rank_lt hs hq hc hd⟩
  rcases bef_or hs (q := q) (d := d) (c := c) hp with z | z | ⟨rfl, rfl⟩
  · exact z
  · have := rank_lt hs hp hd hc z; omega
  · omega
theorem rank_inj {ts : List Tk} (hs : ∀ t ∈ ts, 1 ≤ t.stride) {p q : Nat} {c d : Int} (hp : p < ts.length) (hq : q < ts.length) (hc : 0 ≤ c) (hd : 0 ≤ d) (h : rankT ts q d = rankT ts p c) : q = p ∧ d = c := by
  rcases bef_or hs (q := q) (d := d) (c := c) hp with z | z | z
  · have := rank_lt hs hq hc hd z; omega
  · have := rank_lt hs hp hd hc z; omega
  · exact z
theorem rank_nn {ts : List Tk} (hs : ∀ t ∈ ts, 1 ≤ t.stride) {p : Nat} {c : Int} (hc : 0 ≤ c) : 0 ≤ rankT ts p c := by
  have := sum_le_sum (f := fun _ : Nat => (0 : Int)) (g := cntAt ts p c) (xs := List.range ts.length) fun q hq => cntAt_nn hs hc (List.mem_range.mp hq)
  have e : ((List.range ts.length).map fun _ : Nat => (0 : Int)).sum = 0 := by
    generalize List.range ts.length = l
    induction l with
    | nil => rfl
    | cons a l ih => rw [List.map_cons, List.sum_cons, ih]; rfl
  rw [e] at this; exact this
theorem tks_range {ts : List Tk} {α : Type} (f : Tk → α) : ts.map f = (List.range ts.length).map fun q => f (getT ts q) := by
  apply List.ext_getElem?
  intro i
  rw [List.getElem?_map, List.getElem?_map]
  by_cases h : i < ts.length
  · rw [getT_at h, List.getElem?_range h]; rfl
  · rw [List.getElem?_eq_none (by omega), List.getElem?_eq_none (by simpa using h)]; rfl
theorem albl_range (ts : List Tk) (m : Int) : albl ts m = ((List.range ts.length).map fun q => tbl (getT ts q) m).sum := by
  unfold albl; rw [tks_range]
/-- has a turn at a mark -/
def hitT (ts : List Tk) (m : Int) (q : Nat) : Bool := decide (tbl (getT ts q) m < tbl (getT ts q) (m + 1))
theorem tbl_step {t : Tk} (h : 1 ≤ t.stride) (m : Int) : tbl t (m + 1) = tbl t m ∨ (tbl t (m + 1) = tbl t m + 1 ∧ t.begin + tbl t m * t.stride = m) := by
  have h1 := tbl_mono h (by omega : m ≤ m + 1)
  by_cases e : tbl t (m + 1) = tbl t m
  · exact .inl e
  · right
    have a := (tbl_lt h (m := m + 1) (tbl_nn h m)).mp (by omega)
    have b : ¬ tbl t m < tbl t m := Int.lt_irrefl _
    rw [tbl_lt h (tbl_nn h m)] at b
    refine ⟨?_, by omega⟩
    apply Int.le_antisymm _ (by omega)
    apply Int.not_lt.mp
    intro z
    have := (tbl_lt h (by have := tbl_nn h m; omega)).mp z
    rw [Int.add_mul] at this
    omega
theorem rank_of_hit {ts : List Tk} (hs : ∀ t ∈ ts, 1 ≤ t.stride) {m : Int} {p : Nat} (hp : p < ts.length) (hh : hitT ts m p = true) :
    markT ts p (tbl (getT ts p) m) = m ∧ rankT ts p (tbl (getT ts p) m) = albl ts m + (((List.range p).filter (hitT ts m)).length : Nat) := by
  have hm : markT ts p (tbl (getT ts p) m) = m := by
    have hh : tbl (getT ts p) m < tbl (getT ts p) (m + 1) := of_decide_eq_true hh
    rcases tbl_step (hs _ (getT_mem hp)) m with z | ⟨_, z⟩
    · omega
    · exact z
  refine ⟨hm, ?_⟩
  unfold rankT
  rw [albl_range]
  have split : ∀ n, n ≤ ts.length → ((List.range n).map (cntAt ts p (tbl (getT ts p) m))).sum = ((List.range n).map fun q => tbl (getT ts q) m).sum + (((List.range (min n p)).filter (hitT ts m)).length : Nat) := by
    intro n
    induction n with
    | zero => intro _; simp
    | succ n ih =>
      intro hn
      rw [List.range_succ, List.map_append, List.map_append, List.sum_append, List.sum_append, ih (by omega)]
      simp only [List.map_cons, List.map_nil, List.sum_cons, List.sum_nil]
      have ht := hs _ (getT_mem (show n < ts.length by omega))
      unfold cntAt
      rw [hm]
      by_cases e : n = p
      · subst e
        rw [if_pos rfl, Nat.min_self, Nat.min_eq_right (Nat.le_succ n)]; omega
      · rw [if_neg e]
        by_cases e2 : n < p
        · rw [if_pos e2, Nat.min_eq_left (by omega), Nat.min_eq_left (by omega : n + 1 ≤ p), List.range_succ, List.filter_append, List.length_append]
          rcases tbl_step ht m with z | ⟨z, _⟩
          · have : hitT ts m n = false := by unfold hitT; rw [z]; simp
            simp [List.filter_cons, this]; omega
          · have : hitT ts m n = true := decide_eq_true (by omega)
            simp [List.filter_cons, this]; omega
        · rw [if_neg e2, Nat.min_eq_right (by omega), Nat.min_eq_right (by omega : p ≤ n + 1)]; omega
  have := split ts.length (Nat.le_refl _)
  rw [Nat.min_eq_right (by omega)] at this
  exact this
theorem albl_step {ts : List Tk} (hs : ∀ t ∈ ts, 1 ≤ t.stride) (m : Int) : albl ts (m + 1) = albl ts m + (((List.range ts.length).filter (hitT ts m)).length : Nat) := by
  rw [albl_range, albl_range]
  have : ∀ n, n ≤ ts.length → ((List.range n).map fun q => tbl (getT ts q) (m + 1)).sum = ((List.range n).map fun q => tbl (getT ts q) m).sum + (((List.range n).filter (hitT ts m)).length : Nat) := by
    intro n
    induction n with
    | zero => intro _; simp
    | succ n ih =>
      intro hn
      rw [List.range_succ, List.map_append, List.map_append, List.sum_append, List.sum_append, ih (by omega), List.filter_append, List.length_append]
      simp only [List.map_cons, List.map_nil, List.sum_cons, List.sum_nil]
      rcases tbl_step (hs _ (getT_mem (show n < ts.length by omega))) m with z | ⟨z, _⟩
      · have : hitT ts m n = false := by unfold hitT; rw [z]; simp
        simp [List.filter_cons, this]; omega
      · have : hitT ts m n = true := decide_eq_true (by omega)
        simp [List.filter_cons, this]; omega
  exact this _ (Nat.le_refl _)
theorem albl_mono {ts : List Tk} (hs : ∀ t ∈ ts, 1 ≤ t.stride) {m n : Int} (e : m ≤ n) : albl ts m ≤ albl ts n := sum_le_sum fun t ht => tbl_mono (hs t ht) e
theorem albl_zero {ts : List Tk} (hb : ∀ t ∈ ts, 0 ≤ t.begin) : albl ts 0 = 0 := by
  unfold albl
  induction ts with
  | nil => rfl
  | cons t ts ih =>
    rw [List.map_cons, List.sum_cons, ih fun u hu => hb u (by simp [hu])]
    unfold tbl
    rw [if_pos (hb t (by simp))]; rfl
theorem nth_hit {P : Nat → Bool} : ∀ (n k : Nat), k < ((List.range n).filter P).length → ∃ p, p < n ∧ P p = true ∧ ((List.range p).filter P).length = k
  | 0, k, h => by simp at h
  | n + 1, k, h => by
    by_cases z : k < ((List.range n).filter P).length
    · obtain ⟨p, h1, h2⟩ := nth_hit n k z
      exact ⟨p, by omega, h2⟩
    · rw [List.range_succ, List.filter_append, List.length_append] at h
      cases e : P n with
      | false => simp [List.filter_cons, e] at h; omega
      | true =>
        refine ⟨n, by omega, e, ?_⟩
        simp [List.filter_cons, e] at h; omega
/-- a turn's place and count -/
def IsAt (ts : List Tk) (n : Int) (p : Nat) (c : Int) : Prop := p < ts.length ∧ 0 ≤ c ∧ rankT ts p c = n
theorem at_low {ts : List Tk} (hs : ∀ t ∈ ts, 1 ≤ t.stride) {n low : Int} (h1 : albl ts low ≤ n) (h2 : n < albl ts (low + 1)) :
    ∃ p, p < ts.length ∧ hitT ts low p = true ∧ (((List.range p).filter (hitT ts low)).length : Int) = n - albl ts low ∧ IsAt ts n p (tbl (getT ts p) low) ∧ markT ts p (tbl (getT ts p) low) = low := by
  have st := albl_step hs low
  obtain ⟨p, p1, p2, p3⟩ := nth_hit (P := hitT ts low) ts.length (n - albl ts low).toNat (by omega)
  obtain ⟨r1, r2⟩ := rank_of_hit hs p1 p2
  refine ⟨p, p1, p2, by omega, ⟨p1, tbl_nn (hs _ (getT_mem p1)) _, ?_⟩, r1⟩
  rw [r2]; omega
theorem low_ex {ts : List Tk} (h : TsOk ts) {n : Int} (hn : 0 ≤ n) : ∃ low : Int, 0 ≤ low ∧ albl ts low ≤ n ∧ n < albl ts (low + 1) := by
  have hs : ∀ t ∈ ts, 1 ≤ t.stride := fun t ht => (h.ok t ht).st
  have hb : ∀ t ∈ ts, 0 ≤ t.begin := fun t ht => (h.ok t ht).bg
  have big : ∃ M : Nat, n < albl ts M := by
    have h0 : 0 < ts.length := h.one
    have m0 := getT_mem h0
    refine ⟨((getT ts 0).begin + n * (getT ts 0).stride + 1).toNat, ?_⟩
    have hn0 : 0 ≤ n * (getT ts 0).stride := Int.mul_nonneg hn (by have := hs _ m0; omega)
    have b0 := hb _ m0
    rw [Int.toNat_of_nonneg (by omega)]
    have a : n < tbl (getT ts 0) ((getT ts 0).begin + n * (getT ts 0).stride + 1) := (tbl_lt (hs _ m0) hn).mpr (by omega)
    rw [albl_range]
    have : ∀ k, 0 < k → k ≤ ts.length → tbl (getT ts 0) ((getT ts 0).begin + n * (getT ts 0).stride + 1) ≤ ((List.range k).map fun q => tbl (getT ts q) ((getT ts 0).begin + n * (getT ts 0).stride + 1)).sum := by
      intro k
      induction k with
      | zero => intro z; omega
      | succ k ih =>
        intro _ hk
        rw [List.range_succ, List.map_append, List.sum_append]
        simp only [List.map_cons, List.map_nil, List.sum_cons, List.sum_nil]
        have := tbl_nn (hs _ (getT_mem (show k < ts.length by omega))) ((getT ts 0).begin + n * (getT ts 0).stride + 1)
        by_cases e : k = 0
        · subst e; simp
        · have := ih (by omega) (by omega); omega
    have := this _ h0 (Nat.le_refl _)
    omega
  obtain ⟨M, hM⟩ := big
  induction M with
  | zero => rw [show ((0 : Nat) : Int) = 0 from rfl, albl_zero hb] at hM; omega
  | succ M ih =>
    by_cases z : n < albl ts (M : Nat)
    · exact ih z
    · exact ⟨M, by omega, by omega, hM⟩
theorem at_ex {ts : List Tk} (h : TsOk ts) {n : Int} (hn : 0 ≤ n) : ∃ p c, IsAt ts n p c := by
  obtain ⟨low, _, h1, h2⟩ := low_ex h hn
  obtain ⟨p, _, _, _, h3, _⟩ := at_low (fun t ht => (h.ok t ht).st) h1 h2
  exact ⟨p, _, h3⟩
theorem IsAt.uniq {ts : List Tk} (hs : ∀ t ∈ ts, 1 ≤ t.stride) {n : Int} {p q : Nat} {c d : Int} (h : IsAt ts n p c) (h' : IsAt ts n q d) : q = p ∧ d = c := rank_inj hs h.1 h'.1 h.2.1 h'.2.1 (h'.2.2.trans h.2.2.symm)
noncomputable def atP (ts : List Tk) (n : Int) : Nat × Int := by
  classical exact if h : ∃ x : Nat × Int, IsAt ts n x.1 x.2 then Classical.choose h else (0, 0)
theorem atP_ok {ts : List Tk} (h : TsOk ts) {n : Int} (hn : 0 ≤ n) : IsAt ts n (atP ts n).1 (atP ts n).2 := by
  obtain ⟨p, c, z⟩ := at_ex h hn
  have e : ∃ x : Nat × Int, IsAt ts n x.1 x.2 := ⟨(p, c), z⟩
  unfold atP
  rw [dif_pos e]
  exact Classical.choose_spec e
theorem atP_eq {ts : List Tk} (h : TsOk ts) {n : Int} {p : Nat} {c : Int} (z : IsAt ts n p c) : atP ts n = (p, c) := by
  have hn : 0 ≤ n := by rw [← z.2.2]; exact rank_nn (fun t ht => (h.ok t ht).st) z.2.1
  obtain ⟨e1, e2⟩ := IsAt.uniq (fun t ht => (h.ok t ht).st) z (atP_ok h hn)
  exact Prod.ext e1 e2
theorem range_split : ∀ {n q : Nat} {pre post : List Nat}, List.range n = pre ++ q :: post → q = pre.length ∧ pre = List.range q := by
  intro n q pre post h
  have hl := congrArg List.length h
  simp at hl
  have e1 : (List.range n)[pre.length]? = some q := by rw [h]; simp
  rw [List.getElem?_range (by omega)] at e1
  cases e1
  refine ⟨rfl, ?_⟩
  have e2 := congrArg (List.take pre.length) h
  rw [List.take_left', List.take_range] at e2
  · rw [Nat.min_eq_left (by omega)] at e2
    exact e2.symm
  · rfl
/-! a deal's numbers -/
theorem enum_tk (ts : List Tk) : enumD 0 (ts.map tkD) = (List.range ts.length).map fun q : Nat => .tup [.int (q : Nat), tkD (getT ts q)] := by
  apply List.ext_getElem?
  intro i
  have key : ∀ (xs : List D) (n i : Nat), (enumD n xs)[i]? = (xs[i]?).map fun d => .tup [.int ((n + i : Nat) : Int), d] := by
    intro xs
    induction xs with
    | nil => intro n i; rfl
    | cons x xs ih =>
      intro n i
      cases i with
      | zero => rfl
      | succ i =>
        show (enumD (n + 1) xs)[i]? = _
        rw [ih]
        show _ = (xs[i]?).map _
        congr 1
        funext d
        rw [show n + 1 + i = n + (i + 1) by omega]
  rw [key, List.getElem?_map, List.getElem?_map]
  by_cases h : i < ts.length
  · rw [getT_at h, List.getElem?_range h, Nat.zero_add]; rfl
  · rw [List.getElem?_eq_none (by omega), List.getElem?_eq_none (by simpa using h)]; rfl
def cntsL (ts : List Tk) (p : Nat) (c : Int) : List Int := (List.range ts.length).map (cntAt ts p c)
theorem cnts_sum (ts : List Tk) (p : Nat) (c : Int) : (cntsL ts p c).sum = rankT ts p c := rfl
structure NumOk (ts : List Tk) (p : Nat) (c : Int) : Prop where
  ok : TsOk ts
  hp : p < ts.length
  c0 : 0 ≤ c
  cb : Bd 4000 c
def sp_Deal_counts_at : PV.Spec := dspec (fun p : (List Tk × Nat) × Int => [dlD p.1.1, .int p.1.2, .int p.2]) (fun p => NumOk p.1.1 p.1.2 p.2) (fun p => .lst ((cntsL p.1.1 p.1.2 p.2).map .int))
def sp_Deal_number_of : PV.Spec := dspec (fun p : (List Tk × Nat) × Int => [dlD p.1.1, .str (getT p.1.1 p.1.2).name, .int p.2]) (fun p => NumOk p.1.1 p.1.2 p.2) (fun p => .int (rankT p.1.1 p.1.2 p.2))
/-! the turn with a number -/
structure At (ts : List Tk) (n : Int) (p : Nat) (c : Int) : Prop where
  ok : TsOk ts
  is : IsAt ts n p c
  nb : Bd 4000 n
theorem At.n0 {ts : List Tk} {n : Int} {p : Nat} {c : Int} (h : At ts n p c) : 0 ≤ n := by
  rw [← h.is.2.2]; exact rank_nn h.ok.sts h.is.2.1
theorem le_sum_at {f : Nat → Int} {m p : Nat} (h0 : ∀ q, q < m → 0 ≤ f q) (hp : p < m) : f p ≤ ((List.range m).map f).sum := by
  have key : ∀ k, k ≤ m → 0 ≤ ((List.range k).map f).sum ∧ (p < k → f p ≤ ((List.range k).map f).sum) := by
    intro k
    induction k with
    | zero => intro _; exact ⟨by simp, fun z => by omega⟩
    | succ k ih =>
      intro hk
      obtain ⟨a, b⟩ := ih (by omega)
      have := h0 k (by omega)
      rw [List.range_succ, List.map_append, List.sum_append]
      simp only [List.map_cons, List.map_nil, List.sum_cons, List.sum_nil]
      refine ⟨by omega, fun z => ?_⟩
      by_cases e : p = k
      · subst e; omega
      · have := b (by omega); omega
  exact (key m (Nat.le_refl _)).2 hp
theorem cnt_le_rank {ts : List Tk} (hs : ∀ t ∈ ts, 1 ≤ t.stride) {p q : Nat} {c : Int} (hq : q < ts.length) (hc : 0 ≤ c) : cntAt ts p c q ≤ rankT ts p c :=
  le_sum_at (fun r hr => cntAt_nn hs hc hr) hq
theorem At.c_le {ts : List Tk} {n : Int} {p : Nat} {c : Int} (h : At ts n p c) : c ≤ n := by
  have := cnt_le_rank h.ok.sts (p := p) (c := c) h.is.1 h.is.2.1
  rw [h.is.2.2] at this
  unfold cntAt at this
  rwa [if_pos rfl] at this
theorem At.num {ts : List Tk} {n : Int} {p : Nat} {c : Int} (h : At ts n p c) : NumOk ts p c := ⟨h.ok, h.is.1, h.is.2.1, h.nb.le h.is.2.1 h.c_le⟩
theorem At.up {ts : List Tk} {n : Int} (ht : TsOk ts) {q : Nat} (hq : q < ts.length) (hn : 0 ≤ n) : n < albl ts ((getT ts q).begin + n * (getT ts q).stride + 1) := by
  have hs := ht.sts
  rw [albl_range]
  have a : n < tbl (getT ts q) ((getT ts q).begin + n * (getT ts q).stride + 1) := (tbl_lt (hs _ (getT_mem hq)) hn).mpr (by omega)
  have := le_sum_at (f := fun r => tbl (getT ts r) ((getT ts q).begin + n * (getT ts q).stride + 1)) (fun r hr => tbl_nn (hs _ (getT_mem hr)) _) hq
  omega
theorem cnt_mono {P : Nat → Bool} {a b : Nat} (h : a ≤ b) : ((List.range a).filter P).length ≤ ((List.range b).filter P).length := by
  induction b with
  | zero => rw [Nat.le_zero.mp h]; exact Nat.le_refl _
  | succ b ih =>
    by_cases e : a = b + 1
    · subst e; exact Nat.le_refl _
    · have := ih (by omega)
      rw [List.range_succ, List.filter_append, List.length_append]; omega
theorem cnt_succ {P : Nat → Bool} {a : Nat} : ((List.range a ++ [a]).filter P).length = ((List.range a).filter P).length + (if P a = true then 1 else 0) := by
  rw [List.filter_append, List.length_append]
  by_cases h : P a = true
  · simp [h]
  · simp [h]
theorem cnt_lt {P : Nat → Bool} {a b : Nat} (h : a < b) (hp : P a = true) : ((List.range a).filter P).length < ((List.range b).filter P).length := by
  have h1 := cnt_mono (P := P) (show a + 1 ≤ b from h)
  rw [List.range_succ, cnt_succ, if_pos hp] at h1
  omega
theorem tbl_le {t : Tk} (h : 1 ≤ t.stride) (hb : 0 ≤ t.begin) {m : Int} (hm : 0 ≤ m) : tbl t m ≤ m := by
  unfold tbl
  split
  · exact hm
  · refine Int.ediv_le_of_le_mul (by omega) ?_
    have := Int.mul_nonneg (show 0 ≤ m - 1 by omega) (show 0 ≤ t.stride - 1 by omega)
    rw [Int.sub_mul, Int.mul_sub, Int.mul_one, Int.one_mul] at this
    omega
theorem rank_le {ts : List Tk} (ht : TsOk ts) {p : Nat} {c : Int} (hp : p < ts.length) (hc : 0 ≤ c) : rankT ts p c ≤ 8 * (markT ts p c + 1) := by
  have hb : ∀ t ∈ ts, 0 ≤ t.begin := fun t h => (ht.ok t h).bg
  have sp := ht.sts _ (getT_mem hp)
  have bp := hb _ (getT_mem hp)
  have cs : c * 1 ≤ c * (getT ts p).stride := Int.mul_le_mul_of_nonneg_left sp hc
  have mk : c ≤ markT ts p c := by unfold markT; omega
  have one : ∀ q ∈ List.range ts.length, cntAt ts p c q ≤ markT ts p c + 1 := by
    intro q hq
    have hq := List.mem_range.mp hq
    have sq := ht.sts _ (getT_mem hq)
    have bq := hb _ (getT_mem hq)
    unfold cntAt
    split
    · omega
    · split
      · exact tbl_le sq bq (by omega)
      · have := tbl_le sq bq (m := markT ts p c) (by omega); omega
  have h1 := sum_le_sum (f := cntAt ts p c) (g := fun _ => markT ts p c + 1) one
  have h2 : ∀ (n : Nat), ((List.range n).map fun _ => markT ts p c + 1).sum = (n : Int) * (markT ts p c + 1) := by
    intro n
    induction n with
    | zero => simp
    | succ n ih => rw [List.range_succ, List.map_append, List.sum_append, ih, Int.natCast_add, Int.add_mul]; simp
  rw [h2] at h1
  have l8 := ht.few
  have h3 : (ts.length : Int) * (markT ts p c + 1) ≤ 8 * (markT ts p c + 1) := Int.mul_le_mul_of_nonneg_right (by omega) (by omega)
  exact Int.le_trans h1 h3
theorem rank_bd {ts : List Tk} (ht : TsOk ts) {p : Nat} {c : Int} {k : Nat} (hp : p < ts.length) (hc : 0 ≤ c) (hb : Bd k (markT ts p c)) : Bd (k + 5) (rankT ts p c + 1) := by
  have h1 := rank_le ht hp hc
  have h0 := rank_nn ht.sts (p := p) hc
  have cs : c * 1 ≤ c * (getT ts p).stride := Int.mul_le_mul_of_nonneg_left (ht.sts _ (getT_mem hp)) hc
  have bp := (ht.ok _ (getT_mem hp)).bg
  have m0 : 0 ≤ markT ts p c := by unfold markT; omega
  have hl := hb.lt
  refine Bd.of_lt (by omega) ?_
  have e : (2 : Int) ^ (k + 5) = 2 ^ k * 32 := by rw [Int.pow_add]; rfl
  rw [e]; omega
theorem sum_sub3 (f g h : Nat → Int) (l : List Nat) : (l.map fun q => f q - g q - h q).sum = (l.map f).sum - (l.map g).sum - (l.map h).sum := by
  induction l with
  | nil => rfl
  | cons a l ih => simp only [List.map_cons, List.sum_cons, ih]; omega
theorem sum_one {p m : Nat} (h : p < m) : ((List.range m).map fun q => if q = p then (1 : Int) else 0).sum = 1 := by
  have key : ∀ n, ((List.range n).map fun q => if q = p then (1 : Int) else 0).sum = if p < n then 1 else 0 := by
    intro n
    induction n with
    | zero => rfl
    | succ n ih =>
      rw [List.range_succ, List.map_append, List.sum_append, ih]
      simp only [List.map_cons, List.map_nil, List.sum_cons, List.sum_nil]
      split <;> split <;> split <;> omega
  rw [key, if_pos h]
theorem next_cnt {ts : List Tk} (hs : ∀ t ∈ ts, 1 ≤ t.stride) {p p' q : Nat} {c c' : Int} (hp : p < ts.length) (hc : 0 ≤ c) (h : IsAt ts (rankT ts p c + 1) p' c') (hq : q < ts.length) : cntAt ts p' c' q = cntAt ts p c q + (if q = p then 1 else 0) := by
  obtain ⟨hp', hc', hr⟩ := h
  have hb : befT ts p c p' c' := (rank_iff hs hp' hp hc' hc).mp (by omega)
  have nn : ∀ r, r < ts.length → 0 ≤ cntAt ts p' c' r - cntAt ts p c r - (if r = p then 1 else 0) := by
    intro r hlt
    by_cases e : r = p
    · subst e
      rw [if_pos rfl]
      have h1 := (cntAt_lt hs hlt hc).mpr hb
      have h2 : cntAt ts r c r = c := by unfold cntAt; rw [if_pos rfl]
      omega
    · rw [if_neg e]
      have := le_of_lts (a := cntAt ts p c r) (b := cntAt ts p' c' r) (fun d hd z => (cntAt_lt hs hlt hd).mpr (befT_trans ((cntAt_lt hs hlt hd).mp z) hb)) (cntAt_nn hs hc hlt) (cntAt_nn hs hc' hlt)
      omega
  have h1 := le_sum_at (f := fun r => cntAt ts p' c' r - cntAt ts p c r - (if r = p then 1 else 0)) nn hq
  have h2 := nn q hq
  rw [sum_sub3, sum_one hp] at h1
  have e1 : ((List.range ts.length).map (cntAt ts p' c')).sum = rankT ts p c + 1 := hr
  have e2 : ((List.range ts.length).map (cntAt ts p c)).sum = rankT ts p c := rfl
  rw [e1, e2] at h1
  have h1 : cntAt ts p' c' q - cntAt ts p c q - (if q = p then 1 else 0) ≤ rankT ts p c + 1 - rankT ts p c - 1 := h1
  omega
def sp_Deal_where : PV.Spec := dspec (fun x : (List Tk × Int) × Nat × Int => [dlD x.1.1, .int x.1.2]) (fun x => At x.1.1 x.1.2 x.2.1 x.2.2) (fun x => .tup [.int (x.2.1 : Nat), .int x.2.2])
def sp_Deal_counts : PV.Spec := dspec (fun x : (List Tk × Int) × Nat × Int => [dlD x.1.1, .int x.1.2]) (fun x => At x.1.1 x.1.2 x.2.1 x.2.2) (fun x => .tpn ((cntsL x.1.1 x.2.1 x.2.2).map .int))
/-! leads -/
def leadT (ts : List Tk) (i j : Nat) : Int := if 0 < cellT ts i j + (getT ts i).stride / ((divT ts i j : Nat) : Int) then cellT ts i j + (getT ts i).stride / ((divT ts i j : Nat) : Int) else 0
theorem Two.gcd {ts : List Tk} {i j : Nat} (h : Two ts i j) : 0 < ((divT ts i j : Nat) : Int) ∧ Bd 1000 ((divT ts i j : Nat) : Int) := by
  have si := (h.ok.ok _ (getT_mem h.hi)).st
  have bi := h.ok.big _ (getT_mem h.hi)
  have gp : 0 < divT ts i j := Nat.gcd_pos_of_pos_left _ (by omega)
  have gl : divT ts i j ≤ (getT ts i).stride.toNat := Nat.gcd_le_left _ (by omega)
  exact ⟨by omega, Bd.of_lt (by omega) (Int.lt_of_le_of_lt (by omega) bi)⟩
def sp_greatest_lead : PV.Spec := dspec (fun p : List Tk × Nat × Nat => [dlD p.1, .int (p.2.1 : Nat), .int (p.2.2 : Nat)]) (fun p => Two p.1 p.2.1 p.2.2) (fun p => .int (leadT p.1 p.2.1 p.2.2))
def sp_lead : PV.Spec := dspec (fun p : List Tk × Nat × Nat => [dlD p.1, .str (getT p.1 p.2.1).name, .str (getT p.1 p.2.2).name]) (fun p => Two p.1 p.2.1 p.2.2) (fun p => .tup [.int (-(leadT p.1 p.2.2 p.2.1)), .int (leadT p.1 p.2.1 p.2.2)])
/-! draws: the hat -/
structure Hw where
  deep : Int
  st : Int
def hwD (w : Hw) : D := .lst [.int w.deep, .int w.st]
structure HwOk (w : Hw) : Prop where
  dp : 0 ≤ w.deep
  s0 : 0 ≤ w.st
  sb : w.st < 4294967291
def sp_law_hatful : PV.Spec := nspec (fun p : List Int × Nat => [.rol (p.1.map .int), .int (p.2 : Nat)]) (fun p => p.1.length ≤ 63 ∧ p.2 ≤ 63 ∧ ∀ z ∈ p.1, Bd 1048577 z) (fun _ (w : Hw) => HwOk w) true (fun _ w => hwD w) (fun _ _ => [.non, .non])
def sp_law_take : PV.Spec := nspec (fun p : Hw × Int => [hwD p.1, .int p.2]) (fun p => HwOk p.1 ∧ 1 ≤ p.2 ∧ Bd 8000 p.2) (fun p (y : Int × Hw) => 0 ≤ y.1 ∧ y.1 < p.2 ∧ HwOk y.2) false (fun _ y => .int y.1) (fun _ y => [hwD y.2, .non])
def sp_law_pull : PV.Spec := nspec (fun p : Hw × List D => [hwD p.1, .lst p.2]) (fun p => HwOk p.1 ∧ 1 ≤ p.2.length ∧ p.2.length ≤ 1000) (fun p (y : D × Hw) => y.1 ∈ p.2 ∧ HwOk y.2) false (fun _ y => y.1) (fun _ y => [hwD y.2, .non])
/-- a draw, in short -/
theorem tk_ {G : Gt} {f : Nat} {rs : List RR} {env : Ev} {Q : RR → Ev → Prop} {i : Fi} {w : Hw} {n : Int} (hw : HwOk w) (h1 : 1 ≤ n) (hb : Bd 8000 n) (hi : G.fi[f]? = some i) (hs : G.sp f = sp_law_take) (ho : okO env i.io rs [] = true) (hrd : rdLs env rs = some [hwD w, .int n]) (hl : i.io.length = 2) (hbr : borO env i.io rs = false)
    (k : ∀ (m : Nat) w', (m : Int) < n → HwOk w' → Q (.val (.int (m : Nat))) (putO i.io rs [hwD w', .non] env)) : callK G f rs env Q := by
  refine callK_n ((w, n) : Hw × Int) hi hs ho hrd (fun _ => hl.symm) (fun z => (by rw [hbr] at z; cases z)) ⟨hw, h1, hb⟩ ?_
  rintro ⟨v, w'⟩ ⟨v0, v1, hw'⟩
  replace v0 : 0 ≤ v := v0
  replace v1 : v < n := v1
  obtain ⟨j, rfl⟩ := Int.eq_ofNat_of_zero_le v0
  exact k j w' v1 hw'
theorem pull_ {G : Gt} {f : Nat} {rs : List RR} {env : Ev} {Q : RR → Ev → Prop} {i : Fi} {w : Hw} (xs : List D) (hw : HwOk w) (h1 : 1 ≤ xs.length) (h2 : xs.length ≤ 1000) (hi : G.fi[f]? = some i) (hs : G.sp f = sp_law_pull) (ho : okO env i.io rs [] = true) (hrd : rdLs env rs = some [hwD w, .lst xs]) (hl : i.io.length = 2) (hbr : borO env i.io rs = false)
    (k : ∀ d w', d ∈ xs → HwOk w' → Q (.val d) (putO i.io rs [hwD w', .non] env)) : callK G f rs env Q := by
  refine callK_n ((w, xs) : Hw × List D) hi hs ho hrd (fun _ => hl.symm) (fun z => (by rw [hbr] at z; cases z)) ⟨hw, h1, h2⟩ ?_
  rintro ⟨d, w'⟩ ⟨hd, hw'⟩
  exact k d w' hd hw'
theorem mem2 {a b d : D} (h : d ∈ [a, b]) : d = a ∨ d = b := by simpa using h
theorem mem3 {a b c d : D} (h : d ∈ [a, b, c]) : d = a ∨ d = b ∨ d = c := by simpa using h
theorem mem4 {a b c e d : D} (h : d ∈ [a, b, c, e]) : d = a ∨ d = b ∨ d = c ∨ d = e := by simpa using h
theorem mem5 {a b c e g d : D} (h : d ∈ [a, b, c, e, g]) : d = a ∨ d = b ∨ d = c ∨ d = e ∨ d = g := by simpa using h
theorem cut_take {α : Type} {f : α → D} (ns : List α) (k : Nat) : cutD (ns.map f) none (some (k : Int)) = (ns.take k).map f := by
  unfold cutD
  have h0 : HT.sIx (ns.map f).length 0 none = 0 := rfl
  have h1 : HT.sIx (ns.map f).length (ns.map f).length (some (k : Int)) = min k ns.length := by
    unfold HT.sIx
    rw [List.length_map]
    simp
    try omega
  rw [h0, h1, List.drop_zero, Nat.sub_zero, ← List.map_take]
  by_cases h : k ≤ ns.length
  · rw [Nat.min_eq_left h]
  · rw [Nat.min_eq_right (by omega), List.take_length, List.take_of_length_le (by omega)]
/-! names -/
def HDS : Str := "qwertyuiopasdfghjklzxcvbnm"
theorem hds_len : HDS.cps.toList.length = 26 := by decide +kernel
theorem hds_lt : HDS.length ≤ LIM := by decide +kernel
theorem hds_nd : HDS.cps.toList.Nodup := by decide +kernel
theorem hds_al : ∀ c ∈ HDS.cps.toList, c ∈ ALPHA.cps.toList := by decide +kernel
def Lets (s : Str) : Prop := ∀ c ∈ s.cps.toList, c ∈ ALPHA.cps.toList
theorem isNm_of {s : Str} (h0 : 0 < s.length) (h1 : s.length ≤ 10) (h : Lets s) : isNm (.str s) = true := by
  unfold isNm
  simp only [Bool.and_eq_true, decide_eq_true_eq, List.all_eq_true]
  exact ⟨⟨h0, h1⟩, h⟩
def isTail (d : D) : Prop := d = .str "" ∨ d = .str "a" ∨ d = .str "zz" ∨ d = .str "abcdefghi"
theorem tail_ok {d : D} (h : isTail d) : ∃ t : Str, d = .str t ∧ t.length ≤ 9 ∧ t.length ≠ 3 ∧ Lets t := by
  rcases h with rfl | rfl | rfl | rfl
  · exact ⟨_, rfl, by decide +kernel, by decide +kernel, fun c hc => by
      have : (Str.ofString "").cps.toList = [] := by decide +kernel
      rw [this] at hc; cases hc⟩
  · exact ⟨_, rfl, by decide +kernel, by decide +kernel, by unfold Lets; decide +kernel⟩
  · exact ⟨_, rfl, by decide +kernel, by decide +kernel, by unfold Lets; decide +kernel⟩
  · exact ⟨_, rfl, by decide +kernel, by decide +kernel, by unfold Lets; decide +kernel⟩
/-- labels made so far, the letters left -/
structure LbOk (n : Nat) (ys : List Str) (hs : List Nat) : Prop where
  len : hs.length + n = 26
  ly : ys.length = n
  nd : hs.Nodup
  al : ∀ c ∈ hs, c ∈ HDS.cps.toList
  yn : ys.Nodup
  nm : ∀ s ∈ ys, isNm (.str s) = true
  l4 : ∀ s ∈ ys, s.length ≠ 4
  fst : ∀ s ∈ ys, ∃ c, s.cps.toList.head? = some c ∧ c ∉ hs
theorem LbOk.init : LbOk 0 [] HDS.cps.toList := ⟨by rw [hds_len], rfl, hds_nd, fun _ h => h, List.nodup_nil, fun s h => (by cases h), fun s h => (by cases h), fun s h => (by cases h)⟩
theorem LbOk.more {n k : Nat} {ys : List Str} {hs : List Nat} {c : Nat} {t : Str} (h : LbOk n ys hs) (hk : hs[k]? = some c) (l9 : t.length ≤ 9) (l3 : t.length ≠ 3) (lt : Lets t) : LbOk (n + 1) (ys ++ [(⟨#[c]⟩ : Str) ++ t]) (hs.eraseIdx k) := by
  have hm := List.mem_of_getElem? hk
  have kl := (List.getElem?_eq_some_iff.mp hk).1
  have e1 : (⟨#[c]⟩ : Str).length = 1 := rfl
  have hd : ((⟨#[c]⟩ : Str) ++ t).cps.toList = c :: t.cps.toList := by rw [app_list, one_list]; rfl
  have sub : ∀ x ∈ hs.eraseIdx k, x ∈ hs := fun x hx => List.mem_of_mem_eraseIdx hx
  have cn : c ∉ hs.eraseIdx k := fun z => by
    obtain ⟨j, hj, e⟩ := List.mem_eraseIdx_iff_getElem.mp z
    obtain ⟨h1, h2⟩ := e
    have e2 := (List.getElem?_eq_some_iff.mp hk).2
    exact absurd ((List.getElem_inj h.nd).mp (h2.trans e2.symm)) h1
  refine ⟨by rw [List.length_eraseIdx_of_lt kl]; have := h.len; omega, by rw [List.length_append, h.ly]; rfl, h.nd.eraseIdx k, fun x hx => h.al x (sub x hx), ?_, ?_, ?_, ?_⟩
  · rw [List.nodup_append]
    refine ⟨h.yn, by simp, fun a ha b hb => ?_⟩
    rw [List.mem_singleton] at hb
    subst hb
    intro e
    obtain ⟨x, hx, nx⟩ := h.fst a ha
    rw [e, hd] at hx
    cases hx
    exact nx hm
  · intro s hs'
    rcases List.mem_append.mp hs' with hs' | hs'
    · exact h.nm s hs'
    · rw [List.mem_singleton.mp hs']
      refine isNm_of (by rw [len_app, e1]; omega) (by rw [len_app, e1]; omega) fun x hx => ?_
      rw [hd] at hx
      rcases List.mem_cons.mp hx with rfl | hx
      · exact hds_al _ (h.al _ hm)
      · exact lt x hx
  · intro s hs'
    rcases List.mem_append.mp hs' with hs' | hs'
    · exact h.l4 s hs'
    · rw [List.mem_singleton.mp hs', len_app, e1]
      omega
  · intro s hs'
    rcases List.mem_append.mp hs' with hs' | hs'
    · obtain ⟨x, hx, nx⟩ := h.fst s hs'
      exact ⟨x, hx, fun z => nx (sub x z)⟩
    · rw [List.mem_singleton.mp hs']
      exact ⟨c, by rw [hd]; rfl, cn⟩
def sgD (hs : List Nat) : D := .lst (hs.map fun c => .str ⟨#[c]⟩)
def sp_law_fresh_labels : PV.Spec := nspec (fun p : Hw × Nat => [hwD p.1, .int (p.2 : Nat)]) (fun p => HwOk p.1 ∧ p.2 ≤ 8) (fun p (y : List Str × Hw) => (y.1.length = p.2 ∧ y.1.Nodup ∧ (∀ s ∈ y.1, isNm (.str s) = true) ∧ ∀ s ∈ y.1, s.length ≠ 4) ∧ HwOk y.2) false (fun _ y => .lst (y.1.map .str)) (fun _ y => [hwD y.2, .non])
/-! takers -/
def rowD (t : Tk) : D := .lst [.str t.name, .int t.stride, .int t.begin]
structure CrOk (most : Nat) (ts : List Tk) : Prop where
  ok : TsOk ts
  few : ts.length ≤ most
  st : ∀ t ∈ ts, t.stride ≤ 36
  bg : ∀ t ∈ ts, t.begin ≤ 13
  l4 : ∀ t ∈ ts, t.name.length ≠ 4
  dv : ∀ t ∈ ts, t.stride ∣ 360
def sp_law_drawn_crew : PV.Spec := nspec (fun p : Hw × Nat => [hwD p.1, .int (p.2 : Nat)]) (fun p => HwOk p.1 ∧ 1 ≤ p.2 ∧ p.2 ≤ 8) (fun p (y : List Tk × Hw) => CrOk p.2 y.1 ∧ HwOk y.2) false (fun _ y => .lst (y.1.map rowD)) (fun _ y => [hwD y.2, .non])
theorem ixRow {ts : List Tk} {i : Nat} (h : i < ts.length) : idxD (.lst (ts.map rowD)) ((i : Nat) : Int) = some (rowD (getT ts i)) := ixL i (by rw [List.getElem?_map, getT_at h]; rfl)
def sp_law_written : PV.Spec := dspec (fun ts : List Tk => [.lst (ts.map rowD)]) (fun ts => TsOk ts ∧ ∀ t ∈ ts, Bd 1000 t.begin) (fun ts => .str (textT ts))
/-! the word: the places at the first turns -/
def IsWord (ts : List Tk) (ws : List Nat) : Prop := ∀ (k p : Nat), ws[k]? = some p → ∃ c, IsAt ts (k : Nat) p c
theorem word_ex {ts : List Tk} (ht : TsOk ts) : ∀ n : Nat, ∃ ws : List Nat, ws.length = n ∧ IsWord ts ws
  | 0 => ⟨[], rfl, fun k p h => by simp at h⟩
  | n + 1 => by
    obtain ⟨ws, l, h⟩ := word_ex ht n
    obtain ⟨p, c, hp⟩ := at_ex ht (n := ((n : Nat) : Int)) (by omega)
    refine ⟨ws ++ [p], by simp [l], fun k q hk => ?_⟩
    by_cases e : k < ws.length
    · rw [List.getElem?_append_left e] at hk
      exact h k q hk
    · rw [List.getElem?_append_right (by omega)] at hk
      have : k - ws.length = 0 := by
        have := (List.getElem?_eq_some_iff.mp hk).1
        simp at this; omega
      rw [this] at hk
      simp at hk
      subst hk
      have : k = n := by omega
      subst this
      exact ⟨c, hp⟩
theorem IsWord.lt {ts : List Tk} {ws : List Nat} (h : IsWord ts ws) : ∀ p ∈ ws, p < ts.length := fun p hp => by
  obtain ⟨k, hk, e⟩ := List.getElem_of_mem hp
  obtain ⟨c, z⟩ := h k p (by rw [List.getElem?_eq_getElem hk, e])
  exact z.1
theorem take_snoc {ws : List Nat} {i p : Nat} (h : ws[i]? = some p) : ws.take (i + 1) = ws.take i ++ [p] := by rw [List.take_add_one, h]; rfl
theorem count_snoc (l : List Nat) (p q : Nat) : (((l ++ [p]).count q : Nat) : Int) = ((l.count q : Nat) : Int) + (if q = p then 1 else 0) := by
  rw [List.count_append, List.count_cons, List.count_nil]
  by_cases e : q = p
  · subst e; simp
  · have : (p == q) = false := beq_eq_false_iff_ne.mpr fun z => e z.symm
    rw [if_neg e, this]; simp
/-- turns had are counted in the word -/
theorem cnt_word {ts : List Tk} {ws : List Nat} (ht : TsOk ts) (hw : IsWord ts ws) : ∀ i : Nat, i ≤ ws.length → ∀ p c, IsAt ts (i : Nat) p c → ∀ q, q < ts.length → cntAt ts p c q = (((ws.take i).count q : Nat) : Int) := by
  intro i
  induction i with
  | zero =>
    intro _ p c hp q hq
    have a := cnt_le_rank ht.sts (p := p) (c := c) hq hp.2.1
    have b := cntAt_nn ht.sts (p := p) hp.2.1 hq
    rw [hp.2.2] at a
    have a : cntAt ts p c q ≤ 0 := a
    simp; omega
  | succ i ih =>
    intro hi p c hp q hq
    have e : ws[i]? = some ws[i] := List.getElem?_eq_getElem (by omega)
    obtain ⟨c0, h0⟩ := hw i _ e
    have hp' : IsAt ts (rankT ts ws[i] c0 + 1) p c := by
      have r := h0.2.2
      refine ⟨hp.1, hp.2.1, ?_⟩
      rw [hp.2.2, r]; omega
    rw [next_cnt ht.sts h0.1 h0.2.1 hp' hq, ih (by omega) _ _ h0 q hq, take_snoc e, count_snoc]
/-- marks of the next turns -/
def mkW (ts : List Tk) (ws : List Nat) (i q : Nat) : Int := markT ts q (((ws.take i).count q : Nat) : Int)
theorem word_at {ts : List Tk} {ws : List Nat} (ht : TsOk ts) (hw : IsWord ts ws) {i p : Nat} (h : ws[i]? = some p) : p < ts.length ∧ IsAt ts (i : Nat) p (((ws.take i).count p : Nat) : Int) ∧ (∀ q, q < ts.length → mkW ts ws i p ≤ mkW ts ws i q) ∧ ∀ q, q < p → mkW ts ws i q ≠ mkW ts ws i p := by
  obtain ⟨c, hp⟩ := hw i p h
  have li : i < ws.length := (List.getElem?_eq_some_iff.mp h).1
  have cw := cnt_word ht hw i (by omega) p c hp
  have ec : (((ws.take i).count p : Nat) : Int) = c := by
    rw [← cw p hp.1]; unfold cntAt; rw [if_pos rfl]
  have key : ∀ q, q < ts.length → ¬ befT ts q (((ws.take i).count q : Nat) : Int) p c := fun q hq z => by
    have := (cntAt_lt ht.sts hq (by omega) (p := p) (c := c) (d := (((ws.take i).count q : Nat) : Int))).mpr z
    rw [cw q hq] at this
    omega
  refine ⟨hp.1, by rw [ec]; exact hp, fun q hq => ?_, fun q hq z => ?_⟩
  · have := key q hq
    unfold mkW
    rw [ec]
    unfold befT at this
    omega
  · have := key q (Nat.lt_trans hq hp.1)
    unfold mkW at z
    rw [ec] at z
    unfold befT at this
    omega
theorem mkW_snoc {ts : List Tk} {ws : List Nat} {i p q : Nat} (h : ws[i]? = some p) : mkW ts ws (i + 1) q = if q = p then mkW ts ws i p + (getT ts p).stride else mkW ts ws i q := by
  unfold mkW markT
  rw [take_snoc h, count_snoc]
  split
  · rename_i e; subst e; rw [Int.add_mul, Int.one_mul]; omega
  · rw [Int.add_zero]
theorem set_map_range {α : Type} {n p : Nat} (f g : Nat → α) (x : α) (hx : x = g p) (h : ∀ q, q ≠ p → f q = g q) : ((List.range n).map f).set p x = (List.range n).map g := by
  apply List.ext_getElem?
  intro i
  by_cases e : i = p
  · subst e
    by_cases l : i < n
    · rw [List.getElem?_set_self (by simpa using l), List.getElem?_map, List.getElem?_range l, hx]; rfl
    · rw [List.getElem?_eq_none (by simp; omega), List.getElem?_eq_none (by simp; omega)]
  · rw [List.getElem?_set_ne (Ne.symm e), List.getElem?_map, List.getElem?_map]
    by_cases l : i < n
    · rw [List.getElem?_range l]
      show some (f i) = some (g i)
      rw [h i e]
    · rw [List.getElem?_eq_none (by simp; omega)]; rfl
def wordD (ts : List Tk) (ws : List Nat) : D := .lst (ws.map fun q => .str (getT ts q).name)
theorem name_inj {ts : List Tk} (ht : TsOk ts) {p q : Nat} (hp : p < ts.length) (hq : q < ts.length) : (getT ts p).name = (getT ts q).name ↔ p = q := by
  refine ⟨fun h => ?_, fun h => by rw [h]⟩
  have lp : p < (ts.map (·.name)).length := by rw [List.length_map]; exact hp
  have lq : q < (ts.map (·.name)).length := by rw [List.length_map]; exact hq
  have e : ∀ k, (hk : k < ts.length) → (ts.map (·.name))[k]? = some (getT ts k).name := fun k hk => by rw [List.getElem?_map, getT_at hk]; rfl
  have ep := (List.getElem?_eq_some_iff.mp (e p hp)).2
  have eq := (List.getElem?_eq_some_iff.mp (e q hq)).2
  rcases Nat.lt_trichotomy p q with z | z | z
  · exact absurd (by rw [ep, eq, h]) (List.pairwise_iff_getElem.mp ht.nd p q lp lq z)
  · exact z
  · exact absurd (by rw [ep, eq, h]) (List.pairwise_iff_getElem.mp ht.nd q p lq lp z)
def sp_law_word : PV.Spec := dspec (fun p : List Tk × List Nat => [.lst (p.1.map rowD), .int (p.2.length : Nat)]) (fun p => TsOk p.1 ∧ IsWord p.1 p.2 ∧ p.2.length ≤ 1000000) (fun p => wordD p.1 p.2)
def sp_law_around : PV.Spec := dspec (fun ts : List Tk => [.lst (ts.map rowD)]) (fun ts => TsOk ts) (fun ts => .tup [.int (rndT ts), .int (runT ts)])
/-! rounds -/
theorem tbl_shift {t : Tk} {m w : Int} (h : 1 ≤ t.stride) (hm : t.begin ≤ m) (w0 : 0 ≤ w) (hw : t.stride ∣ w) : tbl t (m + w) = tbl t m + w / t.stride := by
  obtain ⟨k, rfl⟩ := hw
  rw [Int.mul_ediv_cancel_left _ (by omega)]
  have e : tbl t m = (m - t.begin + t.stride - 1) / t.stride := by
    unfold tbl
    split
    · have : m = t.begin := by omega
      subst this
      rw [Int.sub_self, Int.zero_add, Int.ediv_eq_zero_of_lt (by omega) (by omega)]
    · rfl
  have e2 : tbl t (m + t.stride * k) = (m + t.stride * k - t.begin + t.stride - 1) / t.stride := by
    unfold tbl
    split
    · have : m = t.begin ∧ t.stride * k = 0 := by omega
      rw [this.1, this.2, Int.add_zero, Int.sub_self, Int.zero_add, Int.ediv_eq_zero_of_lt (by omega) (by omega)]
    · rfl
  rw [e, e2, show m + t.stride * k - t.begin + t.stride - 1 = m - t.begin + t.stride - 1 + t.stride * k by omega, Int.add_mul_ediv_left _ _ (by omega)]
theorem lcmL_dvd : ∀ (ns : List Nat), ∀ n ∈ ns, n ∣ lcmL ns := by
  intro ns
  refine snoc_ind (P := fun ns => ∀ n ∈ ns, n ∣ lcmL ns) (fun n h => by cases h) (fun l x ih n hn => ?_) ns
  rw [lcmL_snoc]
  rcases List.mem_append.mp hn with h | h
  · exact Nat.dvd_trans (ih n h) (Nat.dvd_lcm_left _ _)
  · rw [List.mem_singleton.mp h]; exact Nat.dvd_lcm_right _ _
theorem whole_dvd {ts : List Tk} (ht : TsOk ts) : ∀ t ∈ ts, t.stride ∣ wholeT ts := fun t h => by
  have := lcmL_dvd (ts.map fun t => t.stride.toNat) t.stride.toNat (List.mem_map.mpr ⟨t, h, rfl⟩)
  have h1 := (ht.ok t h).st
  unfold wholeT
  have e : t.stride = ((t.stride.toNat : Nat) : Int) := (Int.toNat_of_nonneg (by omega)).symm
  rw [e]
  exact Int.natCast_dvd_natCast.mpr this
theorem whole_pos {ts : List Tk} (ht : TsOk ts) : 1 ≤ wholeT ts := by
  have := (lcmL_bd (ts.map fun t => t.stride.toNat) 1000 fun n hn => by
    obtain ⟨t, tm, rfl⟩ := List.mem_map.mp hn
    have h1 := (ht.ok t tm).st
    have h2 := ht.big t tm
    refine ⟨by omega, ?_⟩
    have : ((t.stride.toNat : Nat) : Int) < ((2 ^ 1000 : Nat) : Int) := by rw [Int.toNat_of_nonneg (by omega), Int.natCast_pow]; exact h2
    exact_mod_cast this).1
  unfold wholeT; omega
theorem sum_add2 {α : Type} (f g : α → Int) : ∀ l : List α, (l.map fun x => f x + g x).sum = (l.map f).sum + (l.map g).sum
  | [] => rfl
  | a :: l => by simp only [List.map_cons, List.sum_cons, sum_add2 f g l]; omega
theorem sum_mul1 {α : Type} (f : α → Int) (k : Int) : ∀ l : List α, (l.map fun x => k * f x).sum = k * (l.map f).sum
  | [] => by simp
  | a :: l => by simp only [List.map_cons, List.sum_cons, sum_mul1 f k l, Int.mul_add]
theorem albl_round {ts : List Tk} (ht : TsOk ts) {k m : Int} (hk : 0 ≤ k) (hm : ∀ t ∈ ts, t.begin ≤ m) : albl ts (m + k * wholeT ts) = albl ts m + k * rndT ts := by
  have w1 := whole_pos ht
  unfold albl rndT
  rw [← sum_mul1, ← sum_add2]
  congr 1
  refine List.map_congr_left fun t h => ?_
  have h1 := (ht.ok t h).st
  have d := whole_dvd ht t h
  rw [tbl_shift h1 (hm t h) (Int.mul_nonneg hk (by omega)) (Int.dvd_mul_of_dvd_right d), Int.mul_ediv_assoc _ d]
theorem begin_le {ts : List Tk} (ht : TsOk ts) : ∀ t ∈ ts, t.begin ≤ maxB ts := fun t h => by
  have ne : ts.map (·.begin) ≠ [] := by
    intro z
    rw [List.map_eq_nil_iff] at z
    subst z; cases h
  obtain ⟨m, hm⟩ : ∃ m, (ts.map (·.begin)).max? = some m := by
    cases q : (ts.map (·.begin)).max? with
    | none => exact absurd (List.max?_eq_none_iff.mp q) ne
    | some m => exact ⟨m, rfl⟩
  unfold maxB
  rw [hm]
  exact (List.max?_eq_some_iff.mp hm).2 _ (List.mem_map.mpr ⟨t, h, rfl⟩)
/-- turns with lesser marks have lesser numbers -/
theorem rank_lt_albl {ts : List Tk} (hs : ∀ t ∈ ts, 1 ≤ t.stride) {p : Nat} {c m : Int} (hp : p < ts.length) (hc : 0 ≤ c) (hm : markT ts p c < m) : rankT ts p c < albl ts m := by
  rw [albl_range]
  unfold rankT
  have one : ∀ q ∈ List.range ts.length, cntAt ts p c q ≤ tbl (getT ts q) m := fun q hq => by
    have hq := List.mem_range.mp hq
    have sq := hs _ (getT_mem hq)
    refine le_of_lts (fun d hd z => ?_) (cntAt_nn hs hc hq) (tbl_nn sq _)
    have := (cntAt_lt hs hq hd).mp z
    refine (tbl_lt sq hd).mpr ?_
    unfold befT markT at this
    unfold markT at hm
    omega
  refine sum_lt_sum one ⟨p, List.mem_range.mpr hp, ?_⟩
  have := (tbl_lt (hs _ (getT_mem hp)) (c := c) (m := m) hc).mpr hm
  unfold cntAt
  rw [if_pos rfl]
  exact this
theorem rnd_nn {ts : List Tk} (ht : TsOk ts) : 1 ≤ rndT ts := by
  have w1 := whole_pos ht
  have h0 : 0 < ts.length := ht.one
  have one : ∀ q, q < ts.length → 0 ≤ wholeT ts / (getT ts q).stride := fun q hq => Int.ediv_nonneg (by omega) (by have := ht.sts _ (getT_mem hq); omega)
  have : rndT ts = ((List.range ts.length).map fun q => wholeT ts / (getT ts q).stride).sum := by unfold rndT; rw [tks_range]
  rw [this]
  have a := le_sum_at (f := fun q => wholeT ts / (getT ts q).stride) one h0
  have s0 := ht.sts _ (getT_mem h0)
  have : 1 ≤ wholeT ts / (getT ts 0).stride := by
    obtain ⟨k, hk⟩ := whole_dvd ht _ (getT_mem h0)
    rw [hk, Int.mul_ediv_cancel_left _ (by omega)]
    apply Int.not_lt.mp
    intro z
    have : (getT ts 0).stride * k ≤ 0 := Int.mul_nonpos_of_nonneg_of_nonpos (by omega) (by omega)
    omega
  omega
theorem ixRange {n p : Nat} {f : Nat → D} (h : p < n) : idxD (.lst ((List.range n).map f)) ((p : Nat) : Int) = some (f p) := ixL p (by rw [List.getElem?_map, List.getElem?_range h]; rfl)
theorem ixN_nat {n p : Nat} (h : p < n) : ixN n ((p : Nat) : Int) = some p := by
  unfold ixN
  rw [if_pos (by omega), if_pos (by omega)]
  rfl
theorem ix_range {n p : Nat} {f : Nat → Int} (h : p < n) : ((List.range n).map f)[p]? = some (f p) := by rw [List.getElem?_map, List.getElem?_range h]; rfl
theorem up_div {a s : Int} (hs : 1 ≤ s) (ha : 0 ≤ a) : -(-a / s) = (a + s - 1) / s := by
  have m := Int.emod_add_mul_ediv (a + s - 1) s
  have m0 := Int.emod_nonneg (a + s - 1) (by omega : s ≠ 0)
  have m1 := Int.emod_lt_of_pos (a + s - 1) (by omega : 0 < s)
  generalize (a + s - 1) / s = q at *
  generalize (a + s - 1) % s = u at *
  have : -a / s = -q := by
    refine ((Int.ediv_emod_unique (a := -a) (b := s) (q := -q) (r := s - 1 - u) (by omega)).mpr ⟨?_, by omega, by omega⟩).1
    rw [Int.mul_neg]; omega
  rw [this]; omega
theorem tbl_up {t : Tk} {m : Int} (h : 1 ≤ t.stride) : -(-(if m - t.begin > 0 then m - t.begin else 0) / t.stride) = tbl t m := by
  unfold tbl
  by_cases z : m ≤ t.begin
  · rw [if_pos z, if_neg (by omega)]; simp
  · rw [if_neg z, if_pos (by omega), up_div h (by omega)]
theorem sum_le_const {α : Type} {f : α → Int} {k : Int} : ∀ {l : List α}, (∀ x ∈ l, f x ≤ k) → (l.map f).sum ≤ (l.length : Nat) * k
  | [], _ => by simp
  | a :: l, h => by
    have h1 := h a (by simp)
    have h2 := sum_le_const (l := l) fun x hx => h x (by simp [hx])
    rw [List.map_cons, List.sum_cons, List.length_cons, Int.natCast_add, Int.add_mul, Int.natCast_one, Int.one_mul]
    omega
theorem zero_sum {α : Type} : ∀ l : List α, (l.map fun _ => (0 : Int)).sum = 0
  | [] => rfl
  | _ :: l => by rw [List.map_cons, List.sum_cons, zero_sum l]; rfl
theorem runT_nn {us : List Tk} (h : ∀ t ∈ us, 1 ≤ t.stride) : 0 ≤ runT us := by
  unfold runT albl
  have := sum_le_sum (f := fun _ : Tk => (0 : Int)) (g := fun t => tbl t (maxB us)) (xs := us) fun t m => tbl_nn (h t m) _
  rw [zero_sum] at this
  exact this
theorem row_eqv {us : List Tk} (ht : TsOk us) {i j : Nat} (hi : i < us.length) (hj : j < us.length) : (PyData.tuple [PyData.str (getT us i).name, PyData.int (getT us i).stride, PyData.int (getT us i).begin]).eqv (PyData.tuple [PyData.str (getT us j).name, PyData.int (getT us j).stride, PyData.int (getT us j).begin]) = decide (i = j) := by
  by_cases z : i = j
  · subst z
    simp [PyData.eqv, PyData.eqvAll]
  · have : (getT us i).name ≠ (getT us j).name := fun h => z ((name_inj ht hi hj).mp h)
    rw [decide_eq_false z]
    simp [PyData.eqv, PyData.eqvAll, this]
theorem nm_ok {s : Str} (h : isNm (.str s) = true) : PyData.strOk s = true := by
  unfold isNm at h
  simp only [Bool.and_eq_true] at h
  have al : ∀ c ∈ ALPHA.cps.toList, c < 0x110000 := by decide +kernel
  unfold PyData.strOk
  rw [← Array.all_toList, List.all_eq_true]
  intro c hc
  exact decide_eq_true (al c (of_decide_eq_true (List.all_eq_true.mp h.2 c hc)))
theorem row_shaped {t : Tk} (h : TkOk t) : SeqAt.shaped (PyData.tuple [PyData.str t.name, PyData.int t.stride, PyData.int t.begin]) = true := by
  unfold SeqAt.shaped
  rw [Bool.and_eq_true, decide_eq_true_eq]
  refine ⟨?_, by simp [PyData.depth, PyData.depthAll]⟩
  show (PyData.strOk t.name && (true && (true && true))) = true
  rw [nm_ok h.nm]; rfl
/-- the word of so many turns -/
noncomputable def wordT (ts : List Tk) (n : Nat) : List Nat := (List.range n).map fun k => (atP ts (k : Nat)).1
theorem wordT_len (ts : List Tk) (n : Nat) : (wordT ts n).length = n := by unfold wordT; rw [List.length_map, List.length_range]
theorem wordT_is {ts : List Tk} (ht : TsOk ts) (n : Nat) : IsWord ts (wordT ts n) := fun k p h => by
  have hk : k < n := by
    have := (List.getElem?_eq_some_iff.mp h).1
    rwa [wordT_len] at this
  unfold wordT at h
  rw [List.getElem?_map, List.getElem?_range hk] at h
  cases h
  exact ⟨_, atP_ok ht (by omega)⟩
theorem word_uniq {ts : List Tk} (ht : TsOk ts) {ws : List Nat} (h : IsWord ts ws) : ws = wordT ts ws.length := by
  refine List.ext_getElem? fun k => ?_
  by_cases hk : k < ws.length
  · have e := List.getElem?_eq_getElem hk
    obtain ⟨c, hc⟩ := h k _ e
    unfold wordT
    rw [List.getElem?_map, List.getElem?_range hk, e]
    show some ws[k] = some (atP ts ((k : Nat) : Int)).1
    rw [atP_eq ht hc]
  · rw [List.getElem?_eq_none (by omega), List.getElem?_eq_none (by rw [wordT_len]; omega)]
/-! the places of the first turns -/
def iD (q : Nat) : D := .int (q : Nat)
def wD (ws : List Nat) : D := .lst (ws.map iD)
def sp_law_dealt : PV.Spec := uspec (fun p : List Tk × List Nat => [.lst (p.1.map rowD), .int (p.2.length : Nat)]) (fun p => TsOk p.1 ∧ IsWord p.1 p.2 ∧ p.2.length ≤ 1000000) true (fun p => wD p.2) (fun _ => [.non, .non])
/-! rounds -/
theorem hit_whole {ts : List Tk} (ht : TsOk ts) {k : Int} (hk : 0 ≤ k) : ∃ q, q < ts.length ∧ hitT ts (maxB ts + k * wholeT ts) q = true := by
  have hs := ht.sts
  have ne : ts.map (·.begin) ≠ [] := by
    have := ht.one
    intro z
    rw [List.map_eq_nil_iff] at z
    subst z; simp at this
  obtain ⟨m, hm⟩ : ∃ m, (ts.map (·.begin)).max? = some m := by
    cases q : (ts.map (·.begin)).max? with
    | none => exact absurd (List.max?_eq_none_iff.mp q) ne
    | some m => exact ⟨m, rfl⟩
  have e : maxB ts = m := by unfold maxB; rw [hm]; rfl
  obtain ⟨t, h1, e2⟩ := List.mem_map.mp (List.max?_eq_some_iff.mp hm).1
  obtain ⟨q, hq, e3⟩ := List.getElem_of_mem h1
  have eg : getT ts q = t := by
    have := getT_at hq
    rw [List.getElem?_eq_getElem hq, e3] at this
    exact (Option.some.inj this).symm
  have bq : (getT ts q).begin = maxB ts := by rw [eg, e]; exact e2
  have sq := hs _ (getT_mem hq)
  obtain ⟨u, hu⟩ := whole_dvd ht _ (getT_mem hq)
  have w1 := whole_pos ht
  have u0 : 0 ≤ u := by
    apply Int.not_lt.mp; intro z
    have : (getT ts q).stride * u ≤ 0 := Int.mul_nonpos_of_nonneg_of_nonpos (by omega) (by omega)
    omega
  have ku : 0 ≤ k * u := Int.mul_nonneg hk u0
  have mk : (getT ts q).begin + k * u * (getT ts q).stride = maxB ts + k * wholeT ts := by
    rw [bq, hu, Int.mul_assoc, Int.mul_comm u]
  refine ⟨q, hq, decide_eq_true ?_⟩
  have a : k * u < tbl (getT ts q) (maxB ts + k * wholeT ts + 1) := (tbl_lt sq ku).mpr (by omega)
  have b : ¬ k * u < tbl (getT ts q) (maxB ts + k * wholeT ts) := fun z => by
    have := (tbl_lt sq ku).mp z
    omega
  omega
theorem at_albl {ts : List Tk} (h : TsOk ts) {m : Int} (hm : ∃ q, q < ts.length ∧ hitT ts m q = true) {p : Nat} {c : Int} (ha : IsAt ts (albl ts m) p c) : markT ts p c = m ∧ ∀ q, q < ts.length → cntAt ts p c q = tbl (getT ts q) m := by
  have hs := h.sts
  obtain ⟨q0, hq0, hit0⟩ := hm
  have st := albl_step hs m
  have pos : 0 < ((List.range ts.length).filter (hitT ts m)).length := List.length_pos_of_mem (List.mem_filter.mpr ⟨List.mem_range.mpr hq0, hit0⟩)
  obtain ⟨p', p1, p2, p3, p4, p5⟩ := at_low hs (n := albl ts m) (low := m) (Int.le_refl _) (by omega)
  obtain ⟨e1, e2⟩ := IsAt.uniq hs ha p4
  subst e1
  rw [e2] at p5 p4
  have none_ : ((List.range p').filter (hitT ts m)).length = 0 := by omega
  refine ⟨p5, fun q hq => ?_⟩
  have sq := hs _ (getT_mem hq)
  unfold cntAt
  rw [p5]
  split
  · rename_i e; subst e; exact e2.symm
  · split
    · rename_i _ lt
      rcases tbl_step sq m with z | ⟨z, _⟩
      · exact z
      · exfalso
        have : q ∈ (List.range p').filter (hitT ts m) := List.mem_filter.mpr ⟨List.mem_range.mpr lt, decide_eq_true (by omega)⟩
        rw [List.length_eq_zero_iff.mp none_] at this
        cases this
    · rfl
/-- counts at the run-in and whole rounds behind it -/
theorem at_rounds {ts : List Tk} (h : TsOk ts) {k : Int} (hk : 0 ≤ k) {p : Nat} {c : Int} (ha : IsAt ts (runT ts + k * rndT ts) p c) : markT ts p c = maxB ts + k * wholeT ts ∧ ∀ q, q < ts.length → cntAt ts p c q = tbl (getT ts q) (maxB ts) + k * (wholeT ts / (getT ts q).stride) := by
  have e : runT ts + k * rndT ts = albl ts (maxB ts + k * wholeT ts) := (albl_round h hk (begin_le h)).symm
  rw [e] at ha
  obtain ⟨a, b⟩ := at_albl h (hit_whole h hk) ha
  refine ⟨a, fun q hq => ?_⟩
  have d := whole_dvd h _ (getT_mem hq)
  have w1 := whole_pos h
  rw [b q hq, tbl_shift (h.sts _ (getT_mem hq)) (begin_le h _ (getT_mem hq)) (Int.mul_nonneg hk (by omega)) (Int.dvd_mul_of_dvd_right d), Int.mul_ediv_assoc _ d]
/-- a round later the same taker has the turn -/
theorem at_later {ts : List Tk} (h : TsOk ts) {n k : Int} (hk : 0 ≤ k) {p : Nat} {c : Int} (ha : IsAt ts n p c) (hn : runT ts ≤ n) : IsAt ts (n + k * rndT ts) p (c + k * (wholeT ts / (getT ts p).stride)) := by
  have hs := h.sts
  obtain ⟨hp, hc, hr⟩ := ha
  have w1 := whole_pos h
  have mb : maxB ts ≤ markT ts p c := by
    apply Int.not_lt.mp
    intro z
    have := rank_lt_albl hs hp hc z
    unfold runT at hn
    omega
  have wq : ∀ q, q < ts.length → 0 ≤ wholeT ts / (getT ts q).stride ∧ (getT ts q).stride * (wholeT ts / (getT ts q).stride) = wholeT ts := fun q hq =>
    ⟨Int.ediv_nonneg (by omega) (by have := hs _ (getT_mem hq); omega), Int.mul_ediv_cancel' (whole_dvd h _ (getT_mem hq))⟩
  have k0 := Int.mul_nonneg hk (wq p hp).1
  refine ⟨hp, by omega, ?_⟩
  have mk : markT ts p (c + k * (wholeT ts / (getT ts p).stride)) = markT ts p c + k * wholeT ts := by
    have e := (wq p hp).2
    unfold markT
    rw [Int.add_mul, Int.mul_assoc, Int.mul_comm (wholeT ts / (getT ts p).stride), e]
    omega
  have one : ∀ q ∈ List.range ts.length, cntAt ts p (c + k * (wholeT ts / (getT ts p).stride)) q = cntAt ts p c q + k * (wholeT ts / (getT ts q).stride) := fun q hq => by
    have hq := List.mem_range.mp hq
    have bq := begin_le h _ (getT_mem hq)
    have d := whole_dvd h _ (getT_mem hq)
    have sh : ∀ m, maxB ts ≤ m → tbl (getT ts q) (m + k * wholeT ts) = tbl (getT ts q) m + k * (wholeT ts / (getT ts q).stride) := fun m hm => by
      rw [tbl_shift (hs _ (getT_mem hq)) (by omega) (Int.mul_nonneg hk (by omega)) (Int.dvd_mul_of_dvd_right d), Int.mul_ediv_assoc _ d]
    unfold cntAt
    rw [mk]
    split
    · rename_i e; subst e; rfl
    · split
      · rw [show markT ts p c + k * wholeT ts + 1 = markT ts p c + 1 + k * wholeT ts by omega, sh _ (by omega)]
      · exact sh _ mb
  have e : rankT ts p (c + k * (wholeT ts / (getT ts p).stride)) = ((List.range ts.length).map fun q => cntAt ts p c q + k * (wholeT ts / (getT ts q).stride)).sum := by
    unfold rankT
    rw [List.map_congr_left one]
  rw [e, sum_add2, sum_mul1]
  have : rndT ts = ((List.range ts.length).map fun q => wholeT ts / (getT ts q).stride).sum := by unfold rndT; rw [tks_range]
  rw [this, ← hr]
  rfl
theorem whole_bd {ts : List Tk} {k : Nat} (h : TsOk ts) (hb : ∀ t ∈ ts, Bd k t.stride) : Bd (k * 8 + 1) (wholeT ts) := by
  have := (lcmL_bd (ts.map fun t => t.stride.toNat) k fun n hn => by
    obtain ⟨t, tm, rfl⟩ := List.mem_map.mp hn
    have h1 := (h.ok t tm).st
    have h2 := (hb t tm).lt
    refine ⟨by omega, ?_⟩
    have : ((t.stride.toNat : Nat) : Int) < ((2 ^ k : Nat) : Int) := by rw [Int.toNat_of_nonneg (by omega), Int.natCast_pow]; exact h2
    exact_mod_cast this).2
  have l8 := h.few
  unfold wholeT
  refine Bd.nat (Nat.lt_of_lt_of_le this (Nat.pow_le_pow_right (by decide) ?_))
  rw [List.length_map]
  have := Nat.mul_le_mul_left k l8
  omega
theorem sum_bd {α : Type} {f : α → Int} {k : Nat} {l : List α} (h0 : ∀ x ∈ l, 0 ≤ f x) (hl : l.length ≤ 8) (h : ∀ x ∈ l, Bd k (f x)) : Bd (k + 3) (l.map f).sum := by
  have a : (l.map f).sum ≤ (l.length : Nat) * (2 ^ k - 1) := sum_le_const fun x hx => by have := (h x hx).lt; omega
  have b : 0 ≤ (l.map f).sum := by
    have := sum_le_sum (f := fun _ : α => (0 : Int)) (g := f) (xs := l) h0
    rw [zero_sum] at this
    exact this
  have p : (0 : Int) < 2 ^ k := Int.pow_pos (by decide)
  have c : (l.length : Nat) * ((2 : Int) ^ k - 1) ≤ 8 * (2 ^ k - 1) := Int.mul_le_mul_of_nonneg_right (by omega) (by omega)
  refine Bd.of_lt b ?_
  rw [Int.pow_add]
  have : (2 : Int) ^ 3 = 8 := by decide
  rw [this]; omega
theorem maxB_mem {ts : List Tk} (h : TsOk ts) : ∃ t ∈ ts, t.begin = maxB ts := by
  have ne : ts.map (·.begin) ≠ [] := by
    have := h.one
    intro z
    rw [List.map_eq_nil_iff] at z
    subst z; simp at this
  obtain ⟨m, hm⟩ : ∃ m, (ts.map (·.begin)).max? = some m := by
    cases q : (ts.map (·.begin)).max? with
    | none => exact absurd (List.max?_eq_none_iff.mp q) ne
    | some m => exact ⟨m, rfl⟩
  have e : maxB ts = m := by unfold maxB; rw [hm]; rfl
  obtain ⟨t, h1, e2⟩ := List.mem_map.mp (List.max?_eq_some_iff.mp hm).1
  exact ⟨t, h1, by rw [e]; exact e2⟩
theorem rounds_bd {ts : List Tk} {k : Nat} (h : TsOk ts) (hb : ∀ t ∈ ts, Bd k t.stride) (hg : ∀ t ∈ ts, Bd k t.begin) : Bd (k * 8 + 4) (rndT ts) ∧ Bd (k + 3) (runT ts) ∧ Bd k (maxB ts) := by
  have w := whole_bd h hb
  have w1 := whole_pos h
  obtain ⟨t0, tm0, e0⟩ := maxB_mem h
  have mb : Bd k (maxB ts) := by rw [← e0]; exact hg t0 tm0
  have m0 : 0 ≤ maxB ts := by rw [← e0]; exact (h.ok t0 tm0).bg
  refine ⟨sum_bd (fun t ht => Int.ediv_nonneg (by omega) (by have := (h.ok t ht).st; omega)) h.few fun t ht => w.ediv, ?_, mb⟩
  refine sum_bd (fun t ht => tbl_nn (h.ok t ht).st _) h.few fun t ht => ?_
  refine mb.le (tbl_nn (h.ok t ht).st _) ?_
  exact tbl_le (h.ok t ht).st (h.ok t ht).bg m0
/-! turns -/
def tuD (ts : List Tk) (p : Nat) (c : Int) : D := .obj c_Turn [.str (getT ts p).name, .int c, .int (markT ts p c)]
def sp_Turn_init : PV.Spec := uspec (fun x : Str × Int × Int => [.obj c_Turn [], .str x.1, .int x.2.1, .int x.2.2]) (fun _ => True) false (fun _ => .non) (fun x => [.obj c_Turn [.str x.1, .int x.2.1, .int x.2.2], .non, .non, .non])
def sp_Deal_turn : PV.Spec := dspec (fun x : (List Tk × Int) × Nat × Int => [dlD x.1.1, .int x.1.2]) (fun x => At x.1.1 x.1.2 x.2.1 x.2.2) (fun x => tuD x.1.1 x.2.1 x.2.2)
theorem gcd_rs {a b : Int} (ha : 0 ≤ a) (hb : 0 ≤ b) : [RR.val (D.int a), RR.val (D.int b)] = ([D.int ((a.toNat : Nat) : Int), D.int ((b.toNat : Nat) : Int)] : List D).map RR.val := by
  rw [Int.toNat_of_nonneg ha, Int.toNat_of_nonneg hb]; rfl
def topL (ts : List Tk) : Int := ts.foldl (fun m t => if t.begin > m then t.begin else m) 0
theorem topL_snoc (l : List Tk) (t : Tk) : topL (l ++ [t]) = if t.begin > topL l then t.begin else topL l := by unfold topL; rw [List.foldl_append]; rfl
theorem topL_ok : ∀ l : List Tk, 0 ≤ topL l ∧ (∀ t ∈ l, t.begin ≤ topL l) ∧ (topL l = 0 ∨ topL l ∈ l.map (·.begin)) := by
  refine fun l => snoc_ind (P := fun l => 0 ≤ topL l ∧ (∀ t ∈ l, t.begin ≤ topL l) ∧ (topL l = 0 ∨ topL l ∈ l.map (·.begin))) ⟨Int.le_refl _, fun t h => (by cases h), .inl rfl⟩ (fun l t ih => ?_) l
  obtain ⟨h0, h1, h2⟩ := ih
  rw [topL_snoc]
  split
  · refine ⟨by omega, fun u hu => ?_, .inr (by simp)⟩
    rcases List.mem_append.mp hu with hu | hu
    · have := h1 u hu; omega
    · rw [List.mem_singleton.mp hu]; exact Int.le_refl _
  · refine ⟨h0, fun u hu => ?_, h2.elim .inl fun z => .inr (by rw [List.map_append]; exact List.mem_append_left _ z)⟩
    rcases List.mem_append.mp hu with hu | hu
    · exact h1 u hu
    · rw [List.mem_singleton.mp hu]; omega
theorem topL_max {ts : List Tk} (ht : TsOk ts) : topL ts = maxB ts := by
  obtain ⟨h0, h1, h2⟩ := topL_ok ts
  refine maxB_of ?_ fun y hy => ?_
  · rcases h2 with z | z
    · have one := ht.one
      cases ts with
      | nil => exact absurd one (by decide)
      | cons t r =>
        have a := h1 t (by simp)
        have b := (ht.ok t (by simp)).bg
        have : t.begin = topL (t :: r) := by omega
        exact List.mem_map.mpr ⟨t, by simp, this⟩
    · exact z
  · obtain ⟨t, m, rfl⟩ := List.mem_map.mp hy
    exact h1 t m
theorem tbl_top {t : Tk} {m : Int} (hs : 1 ≤ t.stride) (h : t.begin ≤ m) : (m - t.begin + t.stride - 1) / t.stride = tbl t m := by
  unfold tbl
  split
  · have : m = t.begin := by omega
    rw [this]
    exact Int.ediv_eq_zero_of_lt (by omega) (by omega)
  · rfl
def sp_law_divisor : PV.Spec := dspec (fun p : Nat × Nat => [.int p.1, .int p.2]) (fun _ => True) (fun p => .int (Nat.gcd p.1 p.2))
def sp_law_turns_in : PV.Spec := dspec (fun ts : List Tk => [.lst (ts.map rowD)]) TsOk (fun ts => .tup [.int (runT ts), .int (rndT ts)])
def hadD (ws : List Nat) (k n : Nat) : D := .tpn ((List.range n).map fun q => .int ((ws.take k).count q : Nat))
def sp_law_had : PV.Spec := dspec (fun p : List Nat × Nat × Nat => [wD p.1, .int p.2.1, .int p.2.2]) (fun p => p.1.length ≤ 1000000 ∧ p.2.2 ≤ 1000) (fun p => hadD p.1 p.2.1 p.2.2)
theorem count_iD (l : List Nat) (q : Nat) : (l.map fun z => ((z : Nat) : Int)).count ((q : Nat) : Int) = l.count q := by
  induction l with
  | nil => rfl
  | cons a l ih =>
    rw [List.map_cons, List.count_cons, List.count_cons, ih]
    congr 1
    by_cases h : a = q
    · subst h; simp
    · have h2 : ¬ ((a : Nat) : Int) = ((q : Nat) : Int) := by omega
      have e1 : (a == q) = false := beq_eq_false_iff_ne.mpr h
      have e2 : (((a : Nat) : Int) == ((q : Nat) : Int)) = false := beq_eq_false_iff_ne.mpr h2
      rw [e1, e2]
theorem rng0 (n : Nat) : rngD 0 ((n : Nat) : Int).toNat = (List.range n).map fun i : Nat => .int ((i : Nat) : Int) := by
  rw [Int.toNat_natCast]
  unfold rngD
  exact List.map_congr_left fun i _ => by rw [Int.zero_add]
/-- one of two values, known -/
theorem ite_val {G : Gt} {b : Bool} {ea eb : E} {env : Ev} {K : RR → Ev → Prop} (d : D) (h1 : b = true → ∀ K' : RR → Ev → Prop, K' (.val d) env → (wp2 G ea).1 env K') (h2 : b = false → ∀ K' : RR → Ev → Prop, K' (.val d) env → (wp2 G eb).1 env K') (k : K (.val d) env) : ifB b ((wp2 G ea).1 env K) ((wp2 G eb).1 env K) := by
  cases b with
  | true => exact ifBT (h1 rfl K k)
  | false => exact ifBF (h2 rfl K k)
def itT : D → Option (List D) | .tup xs => some xs | .tpn xs => some xs | _ => none
def plnD : D → Bool | .obj _ _ => false | _ => true
/-! plain values: of no great depth, their texts all right -/
def PlOk (n : Nat) (d : D) : Prop := ∃ p, pd d = some p ∧ p.canLay0 = true ∧ p.depth ≤ n
theorem pl_non {n : Nat} : PlOk n .non := ⟨_, rfl, rfl, Nat.zero_le _⟩
theorem pl_bl {n : Nat} (b : Bool) : PlOk n (.bl b) := ⟨_, rfl, rfl, Nat.zero_le _⟩
theorem pl_int {n : Nat} (i : Int) : PlOk n (.int i) := ⟨_, rfl, rfl, Nat.zero_le _⟩
theorem pl_str {n : Nat} {s : Str} (h : PyData.strOk s = true) : PlOk n (.str s) := ⟨_, rfl, h, Nat.zero_le _⟩
theorem PlOk.mono {n m : Nat} {d : D} (h : PlOk n d) (l : n ≤ m) : PlOk m d := let ⟨p, a, b, c⟩ := h; ⟨p, a, b, Nat.le_trans c l⟩
theorem pls_of {n : Nat} : ∀ {ds : List D}, (∀ d ∈ ds, PlOk n d) → ∃ ps, pds ds = some ps ∧ PyData.canLayAll0 ps = true ∧ PyData.depthAll ps ≤ n ∧ ps.length = ds.length
  | [], _ => ⟨[], rfl, rfl, Nat.zero_le _, rfl⟩
  | d :: ds, h => by
    obtain ⟨p, e1, c1, d1⟩ := h d (by simp)
    obtain ⟨ps, e2, c2, d2, l⟩ := pls_of (ds := ds) fun x hx => h x (by simp [hx])
    refine ⟨p :: ps, ?_, ?_, ?_, by simp [l]⟩
    · show (match pd d, pds ds with | some a, some b => some (a :: b) | _, _ => none) = _
      rw [e1, e2]
    · show (p.canLay0 && PyData.canLayAll0 ps) = true
      rw [c1, c2]; rfl
    · show max p.depth (PyData.depthAll ps) ≤ n
      omega
theorem pl_tup {n : Nat} {ds : List D} (h : ∀ d ∈ ds, PlOk n d) : PlOk (n + 1) (.tup ds) := by
  obtain ⟨ps, e, c, d, _⟩ := pls_of h
  refine ⟨.tuple ps, ?_, c, Nat.succ_le_succ d⟩
  show (pds ds).map PyData.tuple = _
  rw [e]; rfl
theorem pl_tpn {n : Nat} {ds : List D} (h : ∀ d ∈ ds, PlOk n d) : PlOk (n + 1) (.tpn ds) := by
  obtain ⟨ps, e, c, d, _⟩ := pls_of h
  refine ⟨.tuple ps, ?_, c, Nat.succ_le_succ d⟩
  show (pds ds).map PyData.tuple = _
  rw [e]; rfl
theorem pl_lst {n : Nat} {ds : List D} (h : ∀ d ∈ ds, PlOk n d) : PlOk (n + 1) (.lst ds) := by
  obtain ⟨ps, e, c, d, _⟩ := pls_of h
  refine ⟨.list ps, ?_, c, Nat.succ_le_succ d⟩
  show (pds ds).map PyData.list = _
  rw [e]; rfl
theorem pl_strs {n : Nat} {ss : List Str} (h : ∀ s ∈ ss, PyData.strOk s = true) : ∀ d ∈ ss.map D.str, PlOk n d := fun d hd => by
  obtain ⟨s, hs, rfl⟩ := List.mem_map.mp hd
  exact pl_str (h s hs)
theorem pds_len : ∀ {ds : List D} {ps : List PyData}, pds ds = some ps → ps.length = ds.length
  | [], ps, h => by cases h; rfl
  | d :: ds, ps, h => by
    have h : (match pd d, pds ds with | some a, some b => some (a :: b) | _, _ => none) = some ps := h
    cases q1 : pd d with
    | none => rw [q1] at h; cases h
    | some a =>
      cases q2 : pds ds with
      | none => rw [q1, q2] at h; cases h
      | some b =>
        rw [q1, q2] at h
        cases h
        simp [pds_len q2]
theorem pl_tupE {n : Nat} {d : D} {xs : List D} (h : PlOk n d) (e : d = .tup xs ∨ d = .tpn xs) : ∃ ps, pd d = some (.tuple ps) ∧ PyData.canLay0 (.tuple ps) = true ∧ PyData.depth (.tuple ps) ≤ n ∧ ps.length = xs.length := by
  obtain ⟨p, h1, h2, h3⟩ := h
  have h1' : (pds xs).map PyData.tuple = some p := by rcases e with rfl | rfl <;> exact h1
  cases q : pds xs with
  | none => rw [q] at h1'; cases h1'
  | some ps =>
    rw [q] at h1'
    cases h1'
    exact ⟨ps, h1, h2, h3, pds_len q⟩
theorem shaped_of {p : PyData} {n : Nat} (h : p.canLay0 = true) (d : p.depth ≤ n) (hn : n ≤ 64) : SeqAt.shaped p = true := by
  unfold SeqAt.shaped
  rw [Bool.and_eq_true, decide_eq_true_eq]
  exact ⟨h, by omega⟩
theorem eqv_tnil {xs : List PyData} : PyData.eqv (.tuple xs) (.tuple []) = xs.isEmpty := by
  cases xs <;> rfl
/-! code points -/
theorem ok_app {x y : Str} (h : PyData.strOk x = true) (h' : PyData.strOk y = true) : PyData.strOk (x ++ y) = true := by
  unfold PyData.strOk at *
  rw [← Array.all_toList] at *
  rw [app_list, List.all_append, h, h']; rfl
theorem ok_num (i : Int) : PyData.strOk (Str.ofString (toString i)) = true := by
  unfold PyData.strOk
  rw [← Array.all_toList, List.all_eq_true]
  intro c hc
  refine decide_eq_true ?_
  apply Nat.lt_of_not_le
  intro z
  exact num_free c ⟨by omega, .inr (by omega)⟩ i hc
theorem ok_join {sep : Str} (hs : PyData.strOk sep = true) : ∀ {xs : List Str}, (∀ x ∈ xs, PyData.strOk x = true) → PyData.strOk (Str.join sep xs) = true
  | [], _ => (by decide +kernel : PyData.strOk (Str.ofString "") = true)
  | [x], h => h x (by simp)
  | x :: y :: r, h => ok_app (ok_app (h x (by simp)) hs) (ok_join hs (xs := y :: r) fun z hz => h z (List.mem_cons_of_mem _ hz))
theorem ok_line {t : Tk} (h : TkOk t) : PyData.strOk (lineT t) = true := by
  have e : PyData.strOk (Str.ofString " ") = true := by decide +kernel
  unfold lineT
  exact ok_app (ok_app (ok_app (ok_app (nm_ok h.nm) e) (ok_num _)) e) (ok_num _)
theorem ok_text {ts : List Tk} (h : TsOk ts) : PyData.strOk (textT ts) = true := ok_join (by decide +kernel) fun x hx => by
  obtain ⟨t, ht, rfl⟩ := List.mem_map.mp hx
  exact ok_line (h.ok t ht)
structure CtOk (d : D) : Prop where
  pl : plnD d = true
  it : ∀ xs, itT d = some xs → xs.length ≤ 100000 ∧ ∀ y ∈ xs, plnD y = true ∧ ∀ i, y = .int i → Bd 3900 i
def isFig : D → Bool | .int _ => true | _ => false
def isCnt : D → Bool | .int i => decide (0 ≤ i) | _ => false
def sp_is_figure : PV.Spec := dspec (fun d : D => [d]) (fun d => plnD d = true) (fun d => .bl (isFig d))
def sp_is_count : PV.Spec := dspec (fun d : D => [d]) (fun d => plnD d = true) (fun d => .bl (isCnt d))
def isRow (d : D) (n : Nat) : Bool := match itT d with | some xs => decide (xs.length = n) | none => false
def sp_is_row_of : PV.Spec := dspec (fun p : D × Nat => [p.1, .int (p.2 : Nat)]) (fun p => plnD p.1 = true) (fun p => .bl (isRow p.1 p.2))
def sp_deal_written : PV.Spec := uspec (fun ts : List Tk => [.str (textT ts)]) (fun ts => TsOk ts ∧ ∀ t ∈ ts, Bd 1000 t.begin) false dlD (fun _ => [.non])
/-! two takers with bounds; the cell -/
structure TwoF (ts : List Tk) (i j : Nat) : Prop where
  two : Two ts i j
  st : ∀ t ∈ ts, Bd 81 t.stride
  bg : ∀ t ∈ ts, Bd 81 t.begin
theorem TwoF.b {ts : List Tk} {i j : Nat} (h : TwoF ts i j) : (1 ≤ (getT ts i).stride ∧ Bd 81 (getT ts i).stride) ∧ (1 ≤ (getT ts j).stride ∧ Bd 81 (getT ts j).stride) ∧ (0 ≤ (getT ts i).begin ∧ Bd 81 (getT ts i).begin) ∧ (0 ≤ (getT ts j).begin ∧ Bd 81 (getT ts j).begin) := by
  have mi := getT_mem h.two.hi
  have mj := getT_mem h.two.hj
  exact ⟨⟨(h.two.ok.ok _ mi).st, h.st _ mi⟩, ⟨(h.two.ok.ok _ mj).st, h.st _ mj⟩, ⟨(h.two.ok.ok _ mi).bg, h.bg _ mi⟩, (h.two.ok.ok _ mj).bg, h.bg _ mj⟩
theorem TwoF.sym {ts : List Tk} {i j : Nat} (h : TwoF ts i j) : TwoF ts j i := ⟨⟨h.two.ok, h.two.hj, h.two.hi, fun e => h.two.ne e.symm⟩, h.st, h.bg⟩
theorem lim_bd {ts : List Tk} {i j : Nat} (h : TwoF ts i j) : Bd 83 (limT ts i j) := by
  obtain ⟨_, _, ⟨_, b1⟩, ⟨_, b2⟩⟩ := h.b
  unfold limT
  refine (b2.sub b1).sub ?_
  split <;> (unfold Bd; decide)
theorem div_pos {ts : List Tk} {i j : Nat} (h : Two ts i j) : 0 < divT ts i j := Nat.gcd_pos_of_pos_left _ (by have := (h.ok.ok _ (getT_mem h.hi)).st; omega)
theorem div_bd {k : Nat} {x y : Int} (h : Bd k x) (hy : 0 < y) : Bd k (x / y) := by
  unfold Bd at *
  refine Nat.lt_of_le_of_lt ?_ h
  exact Int.natAbs_ediv_le_natAbs x y
theorem cell_bd {ts : List Tk} {i j : Nat} (h : TwoF ts i j) : Bd 83 (cellT ts i j) := div_bd (lim_bd h) (by have := div_pos h.two; omega)
theorem bef_cell {ts : List Tk} {i j : Nat} {low high : Int} (h : Two ts i j) : befT ts i low j high ↔ low * (getT ts i).stride - high * (getT ts j).stride ≤ cellT ts i j * (divT ts i j : Nat) := by
  have ne := h.ne
  have e1 : befT ts i low j high ↔ low * (getT ts i).stride - high * (getT ts j).stride ≤ limT ts i j := by
    unfold befT markT limT
    generalize low * (getT ts i).stride = a
    generalize high * (getT ts j).stride = b
    split <;> omega
  rw [e1]
  have gp : (0 : Int) < (divT ts i j : Nat) := by have := div_pos h; omega
  obtain ⟨q, hq⟩ : ((divT ts i j : Nat) : Int) ∣ low * (getT ts i).stride - high * (getT ts j).stride := by
    have st := h.ok.sts
    have d1 : ((divT ts i j : Nat) : Int) ∣ (getT ts i).stride := by
      have := Int.natCast_dvd_natCast.mpr (Nat.gcd_dvd_left (getT ts i).stride.toNat (getT ts j).stride.toNat)
      rwa [Int.toNat_of_nonneg (by have := st _ (getT_mem h.hi); omega)] at this
    have d2 : ((divT ts i j : Nat) : Int) ∣ (getT ts j).stride := by
      have := Int.natCast_dvd_natCast.mpr (Nat.gcd_dvd_right (getT ts i).stride.toNat (getT ts j).stride.toNat)
      rwa [Int.toNat_of_nonneg (by have := st _ (getT_mem h.hj); omega)] at this
    exact Int.dvd_sub (Int.dvd_mul_of_dvd_right d1) (Int.dvd_mul_of_dvd_right d2)
  rw [hq, Int.mul_comm]
  unfold cellT
  constructor
  · intro z
    exact Int.mul_le_mul_of_nonneg_right ((Int.le_ediv_iff_mul_le gp).mpr z) (by omega)
  · intro z
    have := Int.le_of_mul_le_mul_right z gp
    exact (Int.le_ediv_iff_mul_le gp).mp this
theorem cell_back {ts : List Tk} {i j : Nat} (h : Two ts i j) : cellT ts i j + cellT ts j i = -1 := by
  have gp : (0 : Int) < (divT ts i j : Nat) := by have := div_pos h; omega
  have e : divT ts j i = divT ts i j := Nat.gcd_comm _ _
  unfold cellT
  rw [e]
  have l : limT ts i j + limT ts j i = -1 := by
    unfold limT
    have := h.ne
    split <;> split <;> omega
  generalize ((divT ts i j : Nat) : Int) = g at gp
  generalize limT ts i j = a at l
  have e2 : limT ts j i = -1 - a := by omega
  rw [e2]
  have m := Int.emod_add_mul_ediv a g
  have m0 := Int.emod_nonneg a (by omega : g ≠ 0)
  have m1 := Int.emod_lt_of_pos a gp
  have : (-1 - a) / g = -1 - a / g := by
    refine ((Int.ediv_emod_unique (r := g - 1 - a % g) gp).mpr ⟨?_, by omega, by omega⟩).1
    rw [Int.mul_sub, Int.mul_neg, Int.mul_one]; omega
  omega
def leadAt (ts : List Tk) (i j : Nat) (p : Nat) (c : Int) : Int := cntAt ts p c i * ((getT ts i).stride / ((divT ts i j : Nat) : Int)) - cntAt ts p c j * ((getT ts j).stride / ((divT ts i j : Nat) : Int))
theorem div_comm' {ts : List Tk} {i j : Nat} : divT ts j i = divT ts i j := Nat.gcd_comm _ _
theorem str_g {ts : List Tk} {i j : Nat} (h : Two ts i j) : (getT ts i).stride / ((divT ts i j : Nat) : Int) * ((divT ts i j : Nat) : Int) = (getT ts i).stride ∧ (getT ts j).stride / ((divT ts i j : Nat) : Int) * ((divT ts i j : Nat) : Int) = (getT ts j).stride := by
  have st := h.ok.sts
  have d1 : ((divT ts i j : Nat) : Int) ∣ (getT ts i).stride := by
    have := Int.natCast_dvd_natCast.mpr (Nat.gcd_dvd_left (getT ts i).stride.toNat (getT ts j).stride.toNat)
    rwa [Int.toNat_of_nonneg (by have := st _ (getT_mem h.hi); omega)] at this
  have d2 : ((divT ts i j : Nat) : Int) ∣ (getT ts j).stride := by
    have := Int.natCast_dvd_natCast.mpr (Nat.gcd_dvd_right (getT ts i).stride.toNat (getT ts j).stride.toNat)
    rwa [Int.toNat_of_nonneg (by have := st _ (getT_mem h.hj); omega)] at this
  exact ⟨Int.ediv_mul_cancel d1, Int.ediv_mul_cancel d2⟩
theorem str_pos {ts : List Tk} {i j : Nat} (h : Two ts i j) : 0 < (getT ts i).stride / ((divT ts i j : Nat) : Int) ∧ 0 < (getT ts j).stride / ((divT ts i j : Nat) : Int) := by
  obtain ⟨e1, e2⟩ := str_g h
  have g0 := h.gcd.1
  have s1 := h.ok.sts _ (getT_mem h.hi)
  have s2 := h.ok.sts _ (getT_mem h.hj)
  generalize (getT ts i).stride / ((divT ts i j : Nat) : Int) = a at e1 ⊢
  generalize (getT ts j).stride / ((divT ts i j : Nat) : Int) = b at e2 ⊢
  constructor
  · apply Int.not_le.mp; intro z
    have := Int.mul_le_mul_of_nonneg_right z (Int.le_of_lt g0)
    omega
  · apply Int.not_le.mp; intro z
    have := Int.mul_le_mul_of_nonneg_right z (Int.le_of_lt g0)
    omega
theorem bef_cells {ts : List Tk} {i j : Nat} {low high : Int} (h : Two ts i j) : befT ts i low j high ↔ low * ((getT ts i).stride / ((divT ts i j : Nat) : Int)) - high * ((getT ts j).stride / ((divT ts i j : Nat) : Int)) ≤ cellT ts i j := by
  obtain ⟨e1, e2⟩ := str_g h
  have g0 := h.gcd.1
  rw [bef_cell h]
  generalize (getT ts i).stride / ((divT ts i j : Nat) : Int) = a at e1 ⊢
  generalize (getT ts j).stride / ((divT ts i j : Nat) : Int) = b at e2 ⊢
  rw [← e1, ← e2, ← Int.mul_assoc, ← Int.mul_assoc, ← Int.sub_mul]
  exact ⟨fun z => Int.le_of_mul_le_mul_right z g0, fun z => Int.mul_le_mul_of_nonneg_right z (Int.le_of_lt g0)⟩
theorem lead_nn {ts : List Tk} {i j : Nat} : 0 ≤ leadT ts i j := by unfold leadT; split <;> omega
theorem lead_le {ts : List Tk} {i j p : Nat} {c : Int} (h : Two ts i j) (hp : p < ts.length) (hc : 0 ≤ c) : leadAt ts i j p c ≤ leadT ts i j := by
  have hs := h.ok.sts
  have a0 := cntAt_nn hs (p := p) hc h.hi
  have b0 := cntAt_nn hs (p := p) hc h.hj
  obtain ⟨A0, B0⟩ := str_pos h
  by_cases z : cntAt ts p c i = 0
  · have : 0 ≤ cntAt ts p c j * ((getT ts j).stride / ((divT ts i j : Nat) : Int)) := Int.mul_nonneg b0 (Int.le_of_lt B0)
    have l0 := lead_nn (ts := ts) (i := i) (j := j)
    unfold leadAt
    rw [z, Int.zero_mul]
    omega
  · have h1 : befT ts i (cntAt ts p c i - 1) p c := (cntAt_lt hs h.hi (by omega)).mp (by omega)
    have h2 : ¬ befT ts j (cntAt ts p c j) p c := fun y => Int.lt_irrefl _ ((cntAt_lt hs h.hj b0).mpr y)
    have h3 : befT ts i (cntAt ts p c i - 1) j (cntAt ts p c j) := by
      rcases bef_or hs (p := i) (q := j) (c := cntAt ts p c i - 1) (d := cntAt ts p c j) h.hi with y | y | ⟨y, _⟩
      · exact absurd (befT_trans y h1) h2
      · exact y
      · exact absurd y.symm h.ne
    have h4 := (bef_cells h).mp h3
    rw [Int.sub_mul, Int.one_mul] at h4
    unfold leadAt leadT
    split <;> omega
theorem leadAt_swap {ts : List Tk} {i j p : Nat} {c : Int} : leadAt ts j i p c = - leadAt ts i j p c := by
  unfold leadAt
  rw [div_comm' (i := i) (j := j)]; omega
theorem lead_ge {ts : List Tk} {i j p : Nat} {c : Int} (h : Two ts i j) (hp : p < ts.length) (hc : 0 ≤ c) : -(leadT ts j i) ≤ leadAt ts i j p c := by
  have := lead_le h.swap hp hc
  rw [leadAt_swap (i := i) (j := j)] at this
  omega
theorem bef_not {ts : List Tk} {i j : Nat} {low d : Int} (h : Two ts i j) : befT ts j d i low ↔ ¬ befT ts i low j d := by
  have ne := h.ne
  unfold befT
  omega
theorem top_at {ts : List Tk} {i j p : Nat} {c low : Int} (h : Two ts i j) (hl : 0 ≤ low) (hd : (getT ts j).stride / ((divT ts i j : Nat) : Int) ∣ low * ((getT ts i).stride / ((divT ts i j : Nat) : Int)) - cellT ts i j)
    (hg : cellT ts i j ≤ low * ((getT ts i).stride / ((divT ts i j : Nat) : Int))) (hat : IsAt ts (rankT ts i low + 1) p c) : leadAt ts i j p c = cellT ts i j + (getT ts i).stride / ((divT ts i j : Nat) : Int) := by
  have hs := h.ok.sts
  have ci := next_cnt hs h.hi hl hat h.hi
  have cj := next_cnt hs h.hi hl hat h.hj
  rw [if_pos rfl] at ci
  rw [if_neg (fun e => h.ne e.symm)] at cj
  have cl : cntAt ts i low i = low := by unfold cntAt; rw [if_pos rfl]
  obtain ⟨A0, B0⟩ := str_pos h
  have b0 := cntAt_nn hs (p := i) hl h.hj
  have key : ∀ d, 0 ≤ d → (d < cntAt ts i low j ↔ ¬ (low * ((getT ts i).stride / ((divT ts i j : Nat) : Int)) - d * ((getT ts j).stride / ((divT ts i j : Nat) : Int)) ≤ cellT ts i j)) := fun d h0 => by
    rw [cntAt_lt hs h.hj h0, bef_not h, bef_cells h]
  unfold leadAt
  rw [ci, cj, cl]
  generalize (getT ts i).stride / ((divT ts i j : Nat) : Int) = A at *
  generalize (getT ts j).stride / ((divT ts i j : Nat) : Int) = B at *
  generalize cntAt ts i low j = b at *
  generalize cellT ts i j = t at *
  obtain ⟨m, hm⟩ := hd
  have m0 : 0 ≤ m := by
    apply Int.not_lt.mp; intro z
    have := Int.mul_lt_mul_of_pos_left z B0
    omega
  have e : b = m := by
    rcases Int.lt_trichotomy b m with z | z | z
    · exfalso
      have k1 := (key b b0).mpr (by
        have := Int.mul_lt_mul_of_pos_left z B0
        rw [Int.mul_comm b B]; omega)
      omega
    · exact z
    · exfalso
      have k1 := (key m m0).mp z
      rw [Int.mul_comm m B] at k1
      omega
  rw [e, Int.add_zero, Int.add_mul, Int.mul_comm m B]
  omega
theorem cop {ts : List Tk} {i j : Nat} (h : Two ts i j) : Int.gcd ((getT ts i).stride / ((divT ts i j : Nat) : Int)) ((getT ts j).stride / ((divT ts i j : Nat) : Int)) = 1 := by
  have s1 := h.ok.sts _ (getT_mem h.hi)
  have s2 := h.ok.sts _ (getT_mem h.hj)
  unfold divT
  generalize (getT ts i).stride = a at s1
  generalize (getT ts j).stride = b at s2
  obtain ⟨a, rfl⟩ := Int.eq_ofNat_of_zero_le (show 0 ≤ a by omega)
  obtain ⟨b, rfl⟩ := Int.eq_ofNat_of_zero_le (show 0 ≤ b by omega)
  rw [Int.toNat_natCast, Int.toNat_natCast, ← Int.natCast_ediv, ← Int.natCast_ediv]
  show Nat.gcd (a / Nat.gcd a b) (b / Nat.gcd a b) = 1
  rw [Nat.gcd_div (Nat.gcd_dvd_left a b) (Nat.gcd_dvd_right a b)]
  exact Nat.div_self (Nat.gcd_pos_of_pos_left _ (by omega))
theorem bez {X Y : Int} (hX : 0 < X) (hY : 0 < Y) (hg : Int.gcd X Y = 1) : ∃ a b : Int, a * X + b * Y = 1 := by
  obtain ⟨a, b, hab⟩ := bezout X.toNat Y.toNat
  have ex : ((X.toNat : Nat) : Int) = X := Int.toNat_of_nonneg (by omega)
  have ey : ((Y.toNat : Nat) : Int) = Y := Int.toNat_of_nonneg (by omega)
  have eg : Nat.gcd X.toNat Y.toNat = 1 := by
    have : Int.gcd X Y = Nat.gcd X.natAbs Y.natAbs := rfl
    rw [hg] at this
    have e1 : X.natAbs = X.toNat := by omega
    have e2 : Y.natAbs = Y.toNat := by omega
    rw [e1, e2] at this
    exact this.symm
  rw [ex, ey, eg] at hab
  exact ⟨a, b, hab⟩
theorem cop_dvd {X Y u : Int} (hX : 0 < X) (hY : 0 < Y) (hg : Int.gcd X Y = 1) (h : Y ∣ X * u) : Y ∣ u := by
  obtain ⟨a, b, e⟩ := bez hX hY hg
  obtain ⟨v, hv⟩ := h
  refine ⟨a * v + b * u, ?_⟩
  have : u = (a * X + b * Y) * u := by rw [e, Int.one_mul]
  rw [Int.add_mul, Int.mul_assoc, hv, Int.mul_assoc] at this
  rw [Int.mul_add, ← Int.mul_assoc, Int.mul_comm Y a, ← Int.mul_assoc, Int.mul_comm Y b, Int.mul_assoc, Int.mul_assoc]
  exact this
theorem lcm_le {ts : List Tk} {i j : Nat} (h : Two ts i j) : (getT ts j).stride / ((divT ts i j : Nat) : Int) * ((getT ts i).stride / ((divT ts i j : Nat) : Int)) * ((divT ts i j : Nat) : Int) ≤ wholeT ts := by
  obtain ⟨e1, e2⟩ := str_g h
  rw [Int.mul_assoc, e1]
  have di := whole_dvd h.ok _ (getT_mem h.hi)
  have dj := whole_dvd h.ok _ (getT_mem h.hj)
  have w1 := whole_pos h.ok
  obtain ⟨X0, Y0⟩ := str_pos h
  have cp := cop h
  have g0 := h.gcd.1
  generalize (getT ts i).stride / ((divT ts i j : Nat) : Int) = X at *
  generalize (getT ts j).stride / ((divT ts i j : Nat) : Int) = Y at *
  rw [← e1] at di ⊢
  rw [← e2] at dj
  generalize ((divT ts i j : Nat) : Int) = g at *
  obtain ⟨u, hu⟩ := di
  have d2 : Y ∣ X * u := by
    obtain ⟨v, hv⟩ := dj
    refine ⟨v, ?_⟩
    have : g * (X * u) = g * (Y * v) := by
      rw [← Int.mul_assoc, Int.mul_comm g X, ← hu, hv, ← Int.mul_assoc, Int.mul_comm g Y]
    exact Int.eq_of_mul_eq_mul_left (by omega) this
  have d3 : Y ∣ u := cop_dvd X0 Y0 cp d2
  obtain ⟨v, rfl⟩ := d3
  have v1 : 1 ≤ v := by
    apply Int.not_lt.mp
    intro z
    have a : 0 ≤ X * g * Y := Int.mul_nonneg (Int.mul_nonneg (by omega) (by omega)) (by omega)
    have : X * g * (Y * v) ≤ 0 := by
      rw [← Int.mul_assoc]
      exact Int.mul_nonpos_of_nonneg_of_nonpos a (by omega)
    omega
  have a : 0 ≤ X * g * Y := Int.mul_nonneg (Int.mul_nonneg (by omega) (by omega)) (by omega)
  have := Int.mul_le_mul_of_nonneg_left v1 a
  rw [Int.mul_one, Int.mul_assoc (X * g), ← hu] at this
  rw [Int.mul_comm Y]
  exact this
/-! leads, by the word: what is common -/
def leadP (ts : List Tk) (i j : Nat) (l : List Nat) : Int := ((l.count i : Nat) : Int) * ((getT ts i).stride / ((divT ts i j : Nat) : Int)) - ((l.count j : Nat) : Int) * ((getT ts j).stride / ((divT ts i j : Nat) : Int))
theorem leadP_snoc (ts : List Tk) (i j : Nat) (l : List Nat) (x : Nat) : leadP ts i j (l ++ [x]) = leadP ts i j l + (if x = i then 1 else 0) * ((getT ts i).stride / ((divT ts i j : Nat) : Int)) - (if x = j then 1 else 0) * ((getT ts j).stride / ((divT ts i j : Nat) : Int)) := by
  unfold leadP
  rw [count_snoc, count_snoc, Int.add_mul, Int.add_mul]
  have e : ∀ a b : Nat, (if a = b then (1 : Int) else 0) = if b = a then 1 else 0 := fun a b => by
    by_cases h : a = b
    · rw [if_pos h, if_pos h.symm]
    · rw [if_neg h, if_neg fun z => h z.symm]
  rw [e i x, e j x]
  omega
theorem leadP_at {ts : List Tk} {i j : Nat} {ws : List Nat} (h : Two ts i j) (hw : IsWord ts ws) {k : Nat} (hk : k ≤ ws.length) {p : Nat} {c : Int} (hp : IsAt ts (k : Nat) p c) : leadP ts i j (ws.take k) = leadAt ts i j p c := by
  have e := cnt_word h.ok hw k hk p c hp
  unfold leadP leadAt
  rw [e i h.hi, e j h.hj]
theorem lead_in {ts : List Tk} {i j : Nat} {ws : List Nat} (h : Two ts i j) (hw : IsWord ts ws) {k : Nat} (hk : k ≤ ws.length) : -(leadT ts j i) ≤ leadP ts i j (ws.take k) ∧ leadP ts i j (ws.take k) ≤ leadT ts i j := by
  obtain ⟨p, c, hp⟩ := at_ex h.ok (n := ((k : Nat) : Int)) (by omega)
  rw [leadP_at h hw hk hp]
  exact ⟨lead_ge h hp.1 hp.2.1, lead_le h hp.1 hp.2.1⟩
theorem leadP_swap (ts : List Tk) (i j : Nat) (l : List Nat) : leadP ts j i l = - leadP ts i j l := by
  unfold leadP
  rw [div_comm' (i := i) (j := j)]; omega
theorem low_sol {X Y c : Int} (hX : 0 < X) (hY : 0 < Y) (hg : Int.gcd X Y = 1) : ∃ low : Int, 0 ≤ low ∧ Y ∣ low * X - c ∧ c ≤ low * X ∧ (low * X ≤ c - 1 + Y * X ∨ low * X ≤ Y * X - X) := by
  obtain ⟨a, b, hab⟩ := bez hX hY hg
  -- from the least integer of at least c / X and 0
  obtain ⟨s, s0, s1, s2⟩ : ∃ s : Int, 0 ≤ s ∧ c ≤ s * X ∧ (s = 0 ∨ (s - 1) * X ≤ c - 1) := by
    by_cases z : c ≤ 0
    · exact ⟨0, Int.le_refl _, by omega, .inl rfl⟩
    · refine ⟨(c + X - 1) / X, Int.ediv_nonneg (by omega) (by omega), ?_, .inr ?_⟩
      · have := Int.lt_ediv_add_one_mul_self (c + X - 1) hX
        rw [Int.add_mul, Int.one_mul] at this
        omega
      · have := Int.ediv_mul_le (c + X - 1) (b := X) (by omega)
        rw [Int.sub_mul, Int.one_mul]
        omega
  have m0 := Int.emod_nonneg (c * a - s) (by omega : Y ≠ 0)
  have m1 := Int.emod_lt_of_pos (c * a - s) hY
  have me := Int.emod_add_mul_ediv (c * a - s) Y
  refine ⟨s + (c * a - s) % Y, by omega, ?_, ?_, ?_⟩
  · have e1 : s + (c * a - s) % Y = c * a - Y * ((c * a - s) / Y) := by omega
    rw [e1, Int.sub_mul]
    refine ⟨-(c * b) - (c * a - s) / Y * X, ?_⟩
    have e2 : c * a * X = c - c * b * Y := by
      rw [Int.mul_assoc, Int.mul_assoc, show a * X = 1 - b * Y by omega, Int.mul_sub, Int.mul_one]
    rw [e2, Int.mul_sub, Int.mul_neg, Int.mul_assoc Y, Int.mul_comm Y (c * b)]
    omega
  · have := Int.mul_nonneg m0 (show 0 ≤ X by omega)
    rw [Int.add_mul]; omega
  · have h1 : (c * a - s) % Y * X ≤ (Y - 1) * X := Int.mul_le_mul_of_nonneg_right (by omega) (by omega)
    rw [Int.sub_mul, Int.one_mul] at h1
    rcases s2 with rfl | s2
    · right; rw [Int.add_mul, Int.zero_mul]; omega
    · left; rw [Int.sub_mul, Int.one_mul] at s2; rw [Int.add_mul]; omega
theorem lead_met {ts : List Tk} {i j : Nat} {ws : List Nat} (h : Two ts i j) (hw : IsWord ts ws) (hl : runT ts + rndT ts ≤ (ws.length : Nat)) : ∃ k, k ≤ ws.length ∧ leadP ts i j (ws.take k) = leadT ts i j := by
  by_cases z : 0 < cellT ts i j + (getT ts i).stride / ((divT ts i j : Nat) : Int)
  · obtain ⟨X0, Y0⟩ := str_pos h
    obtain ⟨low, l0, l1, l2, l3⟩ := low_sol (c := cellT ts i j) X0 Y0 (cop h)
    have hs := h.ok.sts
    have ble := begin_le h.ok
    have bi := ble _ (getT_mem h.hi)
    have bj := ble _ (getT_mem h.hj)
    have lc := lcm_le h
    have g0 := h.gcd.1
    obtain ⟨e1, e2⟩ := str_g h
    have si := hs _ (getT_mem h.hi)
    have mk : markT ts i low < maxB ts + 1 * wholeT ts := by
      have em : markT ts i low = (getT ts i).begin + low * ((getT ts i).stride / ((divT ts i j : Nat) : Int)) * ((divT ts i j : Nat) : Int) := by
        unfold markT
        rw [Int.mul_assoc, e1]
      rw [em, Int.one_mul]
      have cl : cellT ts i j * ((divT ts i j : Nat) : Int) ≤ limT ts i j := Int.ediv_mul_le _ (by omega)
      have lm : limT ts i j ≤ (getT ts j).begin - (getT ts i).begin := by unfold limT; split <;> omega
      rcases l3 with l3 | l3
      · have := Int.mul_le_mul_of_nonneg_right l3 (Int.le_of_lt g0)
        rw [Int.add_mul, Int.sub_mul, Int.one_mul] at this
        omega
      · have := Int.mul_le_mul_of_nonneg_right l3 (Int.le_of_lt g0)
        rw [Int.sub_mul, e1] at this
        omega
    have rk := rank_lt_albl hs h.hi l0 mk
    rw [albl_round h.ok (by decide) ble, Int.one_mul] at rk
    have rk : rankT ts i low < runT ts + rndT ts := rk
    have r0 := rank_nn hs (p := i) l0
    obtain ⟨k, hk⟩ := Int.eq_ofNat_of_zero_le (show 0 ≤ rankT ts i low + 1 by omega)
    obtain ⟨p, c, hp⟩ := at_ex h.ok (n := ((k : Nat) : Int)) (by omega)
    refine ⟨k, by omega, ?_⟩
    rw [leadP_at h hw (by omega) hp, top_at h l0 l1 l2 (by rw [hk]; exact hp)]
    unfold leadT
    rw [if_pos z]
  · refine ⟨0, Nat.zero_le _, ?_⟩
    unfold leadT
    rw [if_neg z]
    unfold leadP
    simp
/-! what holds between two takers -/
def sp_check_pair : PV.Spec := dspec (fun p : List Tk × Nat × Nat => [dlD p.1, .str (getT p.1 p.2.1).name, .str (getT p.1 p.2.2).name]) (fun p => Two p.1 p.2.1 p.2.2) (fun p => .tup [.int (p.2.1 : Nat), .int (p.2.2 : Nat)])
structure St4 where
  p : Int
  q : Int
  r : Int
  s : Int
structure St4Ok (k : Nat) (x : St4) : Prop where
  p0 : 0 ≤ x.p
  q0 : 0 ≤ x.q
  r0 : 0 ≤ x.r
  s0 : 0 ≤ x.s
  pb : Bd k x.p
  qb : Bd k x.q
  rb : Bd k x.r
  sb : Bd k x.s
theorem St4Ok.mono {k l : Nat} {x : St4} (h : St4Ok k x) (e : k ≤ l) : St4Ok l x := ⟨h.p0, h.q0, h.r0, h.s0, h.pb.mono e, h.qb.mono e, h.rb.mono e, h.sb.mono e⟩
def stD (x : St4) : D := .tup [.int x.p, .int x.q, .int x.r, .int x.s]
def sp_check_steps : PV.Spec := dspec (fun x : St4 => [stD x]) (fun x => St4Ok 1000 x) (fun _ => .non)
def riseT (ts : List Tk) (i j : Nat) (x : St4) : Int := x.p * (getT ts i).stride - x.r * (getT ts j).stride
def roomT (ts : List Tk) (i j : Nat) (x : St4) : Int := limT ts i j - (x.q * (getT ts i).stride - x.s * (getT ts j).stride)
def aheadO (ts : List Tk) (i j : Nat) (x : St4) : Option Int :=
  if roomT ts i j x < 0 then some 0 else if 0 < riseT ts i j x then some (roomT ts i j x / riseT ts i j x + 1) else none
def optD : Option Int → D | some n => .int n | none => .non
def sp_ahead : PV.Spec := dspec (fun p : (List Tk × Nat × Nat) × St4 => [dlD p.1.1, .str (getT p.1.1 p.1.2.1).name, .str (getT p.1.1 p.1.2.2).name, stD p.2]) (fun p => Two p.1.1 p.1.2.1 p.1.2.2 ∧ St4Ok 1000 p.2) (fun p => optD (aheadO p.1.1 p.1.2.1 p.1.2.2 p.2))
theorem Two.sts {ts : List Tk} {i j : Nat} (h : Two ts i j) : (1 ≤ (getT ts i).stride ∧ Bd 1000 (getT ts i).stride) ∧ (1 ≤ (getT ts j).stride ∧ Bd 1000 (getT ts j).stride) := by
  have mi := getT_mem h.hi
  have mj := getT_mem h.hj
  have a := (h.ok.ok _ mi).st
  have b := (h.ok.ok _ mj).st
  exact ⟨⟨a, Bd.of_lt (by omega) (h.ok.big _ mi)⟩, b, Bd.of_lt (by omega) (h.ok.big _ mj)⟩
/-! rows times a factor: their sizes -/
def fT (f : Int) (ts : List Tk) : List Tk := ts.map fun t => ⟨t.name, t.stride * f, t.begin * f⟩
structure FrOk (ts : List Tk) : Prop where
  ok : TsOk ts
  sb : ∀ t ∈ ts, Bd 200 t.stride
  gb : ∀ t ∈ ts, Bd 200 t.begin
  rn : rndT ts ≤ 2880
  ru : runT ts ≤ 112
theorem lcm_dv {ts : List Tk} (ht : TsOk ts) {L : Int} (hL : 0 < L) (d : ∀ t ∈ ts, t.stride ∣ L) : wholeT ts ≤ L := by
  have key : ∀ ns : List Nat, (∀ n ∈ ns, n ∣ L.toNat) → lcmL ns ∣ L.toNat := by
    intro ns
    refine snoc_ind (P := fun ns => (∀ n ∈ ns, n ∣ L.toNat) → lcmL ns ∣ L.toNat) (fun _ => Nat.one_dvd _) (fun l x ih h => ?_) ns
    rw [lcmL_snoc]
    exact Nat.lcm_dvd (ih fun n hn => h n (by simp [hn])) (h x (by simp))
  have := key (ts.map fun t => t.stride.toNat) fun n hn => by
    obtain ⟨t, tm, rfl⟩ := List.mem_map.mp hn
    have t1 := (ht.ok t tm).st
    have dt := d t tm
    have e1 : t.stride = ((t.stride.toNat : Nat) : Int) := (Int.toNat_of_nonneg (by omega)).symm
    have e2 : L = ((L.toNat : Nat) : Int) := (Int.toNat_of_nonneg (by omega)).symm
    rw [e1, e2] at dt
    exact Int.natCast_dvd_natCast.mp dt
  have := Nat.le_of_dvd (by omega) this
  unfold wholeT
  omega
theorem fr_ok {m : Nat} {ts : List Tk} (h : CrOk m ts) {f : Int} (f1 : 1 ≤ f) (fb : f < 2 ^ 100) : FrOk (fT f ts) := by
  have one := h.ok.one
  have few := h.ok.few
  have mem : ∀ u ∈ fT f ts, ∃ t ∈ ts, u = ⟨t.name, t.stride * f, t.begin * f⟩ := fun u hu => by
    obtain ⟨t, ht, rfl⟩ := List.mem_map.mp hu
    exact ⟨t, ht, rfl⟩
  have ln : (fT f ts).length = ts.length := List.length_map _
  have st : ∀ u ∈ fT f ts, f ≤ u.stride ∧ u.stride ≤ 36 * f := fun u hu => by
    obtain ⟨t, ht, rfl⟩ := mem u hu
    have a := (h.ok.ok t ht).st
    have b := h.st t ht
    have p1 := Int.mul_le_mul_of_nonneg_right a (show 0 ≤ f by omega)
    have p2 := Int.mul_le_mul_of_nonneg_right b (show 0 ≤ f by omega)
    exact ⟨by show f ≤ t.stride * f; omega, p2⟩
  have bg : ∀ u ∈ fT f ts, 0 ≤ u.begin ∧ u.begin ≤ 13 * f := fun u hu => by
    obtain ⟨t, ht, rfl⟩ := mem u hu
    have a := (h.ok.ok t ht).bg
    have b := h.bg t ht
    exact ⟨Int.mul_nonneg a (by omega), Int.mul_le_mul_of_nonneg_right b (show 0 ≤ f by omega)⟩
  have lim : (36 : Int) * 2 ^ 100 ≤ 2 ^ 106 := by decide
  have hok : TsOk (fT f ts) := by
    refine ⟨by omega, by omega, fun u hu => ?_, ?_, fun u hu => ?_⟩
    · have a := st u hu
      have b := bg u hu
      obtain ⟨t, ht, rfl⟩ := mem u hu
      exact ⟨(h.ok.ok t ht).nm, by omega, b.1⟩
    · have : (fT f ts).map (·.name) = ts.map (·.name) := by unfold fT; rw [List.map_map]; rfl
      rw [this]; exact h.ok.nd
    · have a := (st u hu).2
      have b : u.stride ≤ 2 ^ 106 := by omega
      exact Int.lt_of_le_of_lt b (by decide +kernel)
  have dv : ∀ u ∈ fT f ts, u.stride ∣ 360 * f := fun u hu => by
    obtain ⟨t, ht, rfl⟩ := mem u hu
    exact Int.mul_dvd_mul_right f (h.dv t ht)
  have wl := lcm_dv hok (show 0 < 360 * f by omega) dv
  have mb : maxB (fT f ts) ≤ 13 * f := by
    obtain ⟨t, ht, e⟩ := maxB_mem hok
    rw [← e]; exact (bg t ht).2
  refine ⟨hok, fun u hu => ?_, fun u hu => ?_, ?_, ?_⟩
  · have a := st u hu
    have b : u.stride < 2 ^ 107 := by omega
    exact (Bd.of_lt (by omega) b : Bd 107 _).mono (by decide)
  · have a := bg u hu
    have b : u.begin < 2 ^ 107 := by omega
    exact (Bd.of_lt a.1 b : Bd 107 _).mono (by decide)
  · have := sum_le_const (f := fun t => wholeT (fT f ts) / t.stride) (k := 360) (l := fT f ts) fun u hu => by
      have a := (st u hu).1
      exact Int.ediv_le_of_le_mul (by omega) (by have := Int.mul_le_mul_of_nonneg_left a (by decide : (0 : Int) ≤ 360); omega)
    unfold rndT
    omega
  · have := sum_le_const (f := fun t => tbl t (maxB (fT f ts))) (k := 14) (l := fT f ts) fun u hu => by
      have a := (st u hu).1
      have b := (bg u hu).1
      unfold tbl
      split
      · decide
      · exact Int.ediv_le_of_le_mul (by omega) (by omega)
    unfold runT albl
    omega
theorem fr_ok2 {f : Int} {us : List Tk} (f1 : 1 ≤ f) (fb : f < 2 ^ 100) (one : 1 ≤ us.length) (few : us.length ≤ 4) (nd : (us.map (·.name)).Nodup) (nm : ∀ u ∈ us, isNm (.str u.name) = true)
    (st : ∀ u ∈ us, (f ≤ u.stride ∧ u.stride ≤ 36 * f) ∧ u.stride ∣ 360 * f) (bg : ∀ u ∈ us, 0 ≤ u.begin ∧ u.begin ≤ 13 * f + 4) : FrOk us := by
  have lim : (36 : Int) * 2 ^ 100 ≤ 2 ^ 106 := by decide
  have hok : TsOk us := by
    refine ⟨by omega, by omega, fun u hu => ?_, nd, fun u hu => ?_⟩
    · have a := (st u hu).1
      have b := bg u hu
      exact ⟨nm u hu, by omega, b.1⟩
    · have a := (st u hu).1.2
      have b : u.stride ≤ 2 ^ 106 := by omega
      exact Int.lt_of_le_of_lt b (by decide +kernel)
  have wl := lcm_dv hok (show 0 < 360 * f by omega) fun u hu => (st u hu).2
  have mb : maxB us ≤ 13 * f + 4 := by
    obtain ⟨t, ht, e⟩ := maxB_mem hok
    rw [← e]; exact (bg t ht).2
  refine ⟨hok, fun u hu => ?_, fun u hu => ?_, ?_, ?_⟩
  · have a := (st u hu).1
    have b : u.stride < 2 ^ 107 := by omega
    exact (Bd.of_lt (by omega) b : Bd 107 _).mono (by decide)
  · have a := bg u hu
    have b : u.begin < 2 ^ 107 := by omega
    exact (Bd.of_lt a.1 b : Bd 107 _).mono (by decide)
  · have := sum_le_const (f := fun t => wholeT us / t.stride) (k := 360) (l := us) fun u hu => by
      have a := (st u hu).1.1
      exact Int.ediv_le_of_le_mul (by omega) (by have := Int.mul_le_mul_of_nonneg_left a (by decide : (0 : Int) ≤ 360); omega)
    unfold rndT
    omega
  · have := sum_le_const (f := fun t => tbl t (maxB us)) (k := 18) (l := us) fun u hu => by
      have a := (st u hu).1.1
      have b := (bg u hu).1
      unfold tbl
      split
      · decide
      · exact Int.ediv_le_of_le_mul (by omega) (by omega)
    unfold runT albl
    omega
/-! a greatest lead, shown -/
def shL (ts : List Tk) (i j : Nat) (k : Int) (d : D) : Bool := match itT d with
  | some [.int g, .int u, .int v, .int x, .int y] => decide ((1 ≤ g ∧ 1 ≤ u ∧ 1 ≤ v) ∧ ((getT ts i).stride = g * u ∧ (getT ts j).stride = g * v) ∧ u * x + v * y = 1 ∧ 0 ≤ k ∧ ((getT ts j).begin - (getT ts i).begin < (k - u + 1) * g ∨ ((getT ts j).begin - (getT ts i).begin = (k - u + 1) * g ∧ j < i)))
  | _ => false
theorem shL_at {ts : List Tk} {i j : Nat} {k : Int} {d : D} {g u v x y : Int} (hd : itT d = some [.int g, .int u, .int v, .int x, .int y]) : shL ts i j k d = decide ((1 ≤ g ∧ 1 ≤ u ∧ 1 ≤ v) ∧ ((getT ts i).stride = g * u ∧ (getT ts j).stride = g * v) ∧ u * x + v * y = 1 ∧ 0 ≤ k ∧ ((getT ts j).begin - (getT ts i).begin < (k - u + 1) * g ∨ ((getT ts j).begin - (getT ts i).begin = (k - u + 1) * g ∧ j < i))) := by
  unfold shL; rw [hd]
theorem shL_ex {ts : List Tk} {i j : Nat} {k : Int} {d : D} (h : shL ts i j k d = true) : ∃ g u v x y, itT d = some [.int g, .int u, .int v, .int x, .int y] := by
  unfold shL at h
  split at h
  · rename_i g u v x y e
    exact ⟨g, u, v, x, y, e⟩
  · cases h
/-- the parts of a paper are what they have to be -/
theorem parts_are {ts : List Tk} {i j : Nat} (h : Two ts i j) {g u v x y : Int} (g1 : 1 ≤ g) (u1 : 1 ≤ u) (v1 : 1 ≤ v) (e1 : (getT ts i).stride = g * u) (e2 : (getT ts j).stride = g * v) (e3 : u * x + v * y = 1) :
    ((divT ts i j : Nat) : Int) = g ∧ (getT ts i).stride / ((divT ts i j : Nat) : Int) = u ∧ (getT ts j).stride / ((divT ts i j : Nat) : Int) = v := by
  obtain ⟨g, rfl⟩ := Int.eq_ofNat_of_zero_le (show 0 ≤ g by omega)
  obtain ⟨u, rfl⟩ := Int.eq_ofNat_of_zero_le (show 0 ≤ u by omega)
  obtain ⟨v, rfl⟩ := Int.eq_ofNat_of_zero_le (show 0 ≤ v by omega)
  have c1 : Nat.gcd u v = 1 := by
    have d1 : ((Nat.gcd u v : Nat) : Int) ∣ (u : Nat) := Int.natCast_dvd_natCast.mpr (Nat.gcd_dvd_left u v)
    have d2 : ((Nat.gcd u v : Nat) : Int) ∣ (v : Nat) := Int.natCast_dvd_natCast.mpr (Nat.gcd_dvd_right u v)
    have d3 : ((Nat.gcd u v : Nat) : Int) ∣ 1 := by
      rw [← e3]
      exact Int.dvd_add (Int.dvd_mul_of_dvd_left d1) (Int.dvd_mul_of_dvd_left d2)
    have : ((Nat.gcd u v : Nat) : Int) ∣ ((1 : Nat) : Int) := d3
    exact Nat.dvd_one.mp (Int.natCast_dvd_natCast.mp this)
  have ed : divT ts i j = g := by
    unfold divT
    rw [e1, e2]
    have a1 : ((g : Nat) : Int) * ((u : Nat) : Int) = ((g * u : Nat) : Int) := (Int.natCast_mul g u).symm
    have a2 : ((g : Nat) : Int) * ((v : Nat) : Int) = ((g * v : Nat) : Int) := (Int.natCast_mul g v).symm
    rw [a1, a2, Int.toNat_natCast, Int.toNat_natCast, Nat.gcd_mul_left, c1, Nat.mul_one]
  have gp : ((g : Nat) : Int) ≠ 0 := by omega
  rw [ed, e1, e2]
  exact ⟨rfl, Int.mul_ediv_cancel_left _ gp, Int.mul_ediv_cancel_left _ gp⟩
theorem shL_iff {ts : List Tk} {i j : Nat} (h : Two ts i j) {k : Int} {d : D} {g u v x y : Int} (hd : itT d = some [.int g, .int u, .int v, .int x, .int y]) (g1 : 1 ≤ g) (u1 : 1 ≤ u) (v1 : 1 ≤ v) (e1 : (getT ts i).stride = g * u) (e2 : (getT ts j).stride = g * v) (e3 : u * x + v * y = 1) :
    shL ts i j k d = true ↔ leadT ts i j ≤ k := by
  obtain ⟨p1, p2, p3⟩ := parts_are h g1 u1 v1 e1 e2 e3
  rw [shL_at hd, decide_eq_true_iff]
  have key : cellT ts i j + u ≤ k ↔ ((getT ts j).begin - (getT ts i).begin < (k - u + 1) * g ∨ ((getT ts j).begin - (getT ts i).begin = (k - u + 1) * g ∧ j < i)) := by
    have c : cellT ts i j + u ≤ k ↔ limT ts i j / g < k - u + 1 := by unfold cellT; rw [p1]; omega
    rw [c, Int.ediv_lt_iff_lt_mul (by omega)]
    unfold limT
    generalize (k - u + 1) * g = B
    by_cases z : j < i
    · rw [if_pos z]; omega
    · rw [if_neg z]; omega
  have l : leadT ts i j ≤ k ↔ 0 ≤ k ∧ cellT ts i j + u ≤ k := by
    unfold leadT
    rw [p2]
    split <;> omega
  rw [l, key]
  constructor
  · rintro ⟨_, _, _, k0, r⟩
    exact ⟨k0, r⟩
  · rintro ⟨k0, r⟩
    exact ⟨⟨g1, u1, v1⟩, ⟨e1, e2⟩, e3, k0, r⟩
theorem shL_le {ts : List Tk} {i j : Nat} (h : Two ts i j) {k : Int} {d : D} (hs : shL ts i j k d = true) : leadT ts i j ≤ k := by
  obtain ⟨g, u, v, x, y, hd⟩ := shL_ex hs
  have hs' := hs
  rw [shL_at hd, decide_eq_true_iff] at hs'
  obtain ⟨⟨g1, u1, v1⟩, ⟨e1, e2⟩, e3, _⟩ := hs'
  exact (shL_iff h hd g1 u1 v1 e1 e2 e3).mp hs
def sp_shows_lead : PV.Spec := dspec (fun p : ((List Tk × Nat × Nat) × Int) × D => [dlD p.1.1.1, .tup [.str (getT p.1.1.1 p.1.1.2.1).name, .str (getT p.1.1.1 p.1.1.2.2).name], .int p.1.2, p.2]) (fun p => Two p.1.1.1 p.1.1.2.1 p.1.1.2.2 ∧ CtOk p.2 ∧ (∀ t ∈ p.1.1.1, Bd 1000 t.begin) ∧ Bd 1000 p.1.2) (fun p => .bl (shL p.1.1.1 p.1.1.2.1 p.1.1.2.2 p.1.2 p.2))
/-- a claim about a lead -/
def ldD (ts : List Tk) (i j : Nat) (k : Int) : D := .tup [.str "lead", .str (textT ts), .str (getT ts i).name, .str (getT ts j).name, .int k]
def ldB (ts : List Tk) (i j : Nat) (k : Int) (d : D) : Bool := if i = j then false else shL ts i j k d
structure LdOk (ts : List Tk) (i j : Nat) (k : Int) (d : D) : Prop where
  ok : TsOk ts
  bg : ∀ t ∈ ts, Bd 1000 t.begin
  hi : i < ts.length
  hj : j < ts.length
  kb : Bd 1000 k
  ct : CtOk d
def sp_is_lead_shown : PV.Spec := dspec (fun p : ((List Tk × Nat × Nat) × Int) × D => [dlD p.1.1.1, ldD p.1.1.1 p.1.1.2.1 p.1.1.2.2 p.1.2, p.2]) (fun p => LdOk p.1.1.1 p.1.1.2.1 p.1.1.2.2 p.1.2 p.2) (fun p => .bl (ldB p.1.1.1 p.1.1.2.1 p.1.1.2.2 p.1.2 p.2))
def sp_holds : PV.Spec := dspec (fun p : ((List Tk × Nat × Nat) × Int) × D => [ldD p.1.1.1 p.1.1.2.1 p.1.1.2.2 p.1.2, p.2]) (fun p => LdOk p.1.1.1 p.1.1.2.1 p.1.1.2.2 p.1.2 p.2) (fun p => .bl (ldB p.1.1.1 p.1.1.2.1 p.1.1.2.2 p.1.2 p.2))
def sp_law_greatest : PV.Spec := dspec (fun p : List Tk × Nat × Nat => [.lst (p.1.map rowD), .int (p.2.1 : Nat), .int (p.2.2 : Nat)]) (fun p => Two p.1 p.2.1 p.2.2 ∧ runT p.1 + rndT p.1 ≤ 1000000) (fun p => .int (leadT p.1 p.2.1 p.2.2))
theorem two_len {α : Type} {xs : List α} {n : Nat} (h : xs.length = n) : n = 5 → ∃ a b c d e, xs = [a, b, c, d, e] := by
  intro e
  subst e
  match xs, h with
  | [a, b, c, d, e], _ => exact ⟨a, b, c, d, e, rfl⟩
theorem ints_fig : ∀ {xs : List D}, xs.all isFig = true → (∀ y ∈ xs, plnD y = true ∧ ∀ i, y = .int i → Bd 3900 i) → ∃ ns : List Int, xs = ns.map .int ∧ ∀ n ∈ ns, Bd 3900 n
  | [], _, _ => ⟨[], rfl, fun n h => (by cases h)⟩
  | d :: xs, h, b => by
    rw [List.all_cons, Bool.and_eq_true] at h
    obtain ⟨ns, rfl, hn⟩ := ints_fig h.2 fun y hy => b y (List.mem_cons_of_mem _ hy)
    cases d <;> first
      | exact ⟨_ :: ns, rfl, fun n hm => (List.mem_cons.mp hm).elim (fun e => e ▸ (b _ List.mem_cons_self).2 _ rfl) (hn n)⟩
      | exact absurd (show false = true from h.1) Bool.false_ne_true
/-! a value with something else at one place -/
theorem pds_i : ∀ ns : List Int, pds (ns.map .int) = some (ns.map PyData.int)
  | [] => rfl
  | n :: ns => by
    show (match some (PyData.int n), pds (ns.map .int) with | some a, some b => some (a :: b) | _, _ => none) = _
    rw [pds_i ns]; rfl
theorem pd_tp (ns : List Int) : pd (.tup (ns.map .int)) = some (.tuple (ns.map .int)) := by
  show (pds (ns.map .int)).map PyData.tuple = _
  rw [pds_i]; rfl
theorem sh_tp (ns : List Int) : SeqAt.shaped (.tuple (ns.map PyData.int)) = true := by
  have p : PlOk 1 (.tup (ns.map .int)) := pl_tup (n := 0) fun d hd => by
    obtain ⟨n, _, rfl⟩ := List.mem_map.mp hd
    exact pl_int n
  obtain ⟨q, e, c, d⟩ := p
  rw [pd_tp] at e
  cases e
  exact shaped_of c d (by decide)
theorem eqv_tint {xs : List PyData} (i : Int) : PyData.eqv (.tuple xs) (.int i) = false := by
  cases xs <;> rfl
structure ElOk (d : D) : Prop where
  pl : plnD d = true
  bd : ∀ i, d = .int i → Bd 3900 i
theorem el_int {n : Int} (h : Bd 3900 n) : ElOk (.int n) := ⟨rfl, fun i e => (by cases e; exact h)⟩
theorem ct_tup {xs : List D} (l : xs.length ≤ 100000) (h : ∀ x ∈ xs, ElOk x) : CtOk (.tup xs) := ⟨rfl, fun ys e => by
  cases (show some xs = some ys from e)
  exact ⟨l, fun y hy => ⟨(h y hy).pl, (h y hy).bd⟩⟩⟩
theorem ct_ints {ns : List Int} (l : ns.length ≤ 100000) (h : ∀ x ∈ ns, Bd 3900 x) : CtOk (.tup (ns.map .int)) := ct_tup (by rw [List.length_map]; exact l) fun x hx => by
  obtain ⟨n, hn, rfl⟩ := List.mem_map.mp hx
  exact el_int (h n hn)
theorem ct_no {d : D} (h : plnD d = true) (e : itT d = none) : CtOk d := ⟨h, fun xs z => by rw [e] at z; cases z⟩
theorem ct_int {n : Int} : CtOk (.int n) := ct_no rfl rfl
theorem b0 {k : Nat} : Bd (k + 64) 0 := (Bd.lit rfl : Bd 64 0).mono (by omega)
def sp_law_marred_r1 : PV.Spec := nspec (fun p : Hw × Int => [hwD p.1, .int p.2]) (fun p => HwOk p.1 ∧ Bd 3900 p.2) (fun _ (y : D × Hw) => (ElOk y.1 ∧ CtOk y.1) ∧ HwOk y.2) false (fun _ y => y.1) (fun _ y => [hwD y.2, .non])
def sp_law_marred_r2 : PV.Spec := nspec (fun p : Hw × List Int => [hwD p.1, .tup (p.2.map .int)]) (fun p => HwOk p.1 ∧ (1 ≤ p.2.length ∧ p.2.length ≤ 1000) ∧ ∀ n ∈ p.2, Bd 3900 n) (fun _ (y : D × Hw) => CtOk y.1 ∧ HwOk y.2) false (fun _ y => y.1) (fun _ y => [hwD y.2, .non])
theorem cutd_drop {α : Type} {f : α → D} (ns : List α) (k : Nat) : cutD (ns.map f) (some (k : Int)) none = (ns.drop k).map f := by
  unfold cutD
  have h1 : HT.sIx (ns.map f).length 0 (some (k : Int)) = min k ns.length := by
    rw [List.length_map]; exact HT.sIx_nat _ _ _
  have h2 : HT.sIx (ns.map f).length (ns.map f).length none = ns.length := by rw [List.length_map]; rfl
  rw [h1, h2, ← List.map_drop, List.take_of_length_le (by rw [List.length_map, List.length_drop]; omega)]
  by_cases h : k ≤ ns.length
  · rw [Nat.min_eq_left h]
  · rw [Nat.min_eq_right (by omega), List.drop_length, List.drop_eq_nil_of_le (by omega)]
/-! a common divisor, its parts, what makes them 1 -/
structure Sh where
  g : Int
  u : Int
  v : Int
  x : Int
  y : Int
def shsD (z : Sh) : D := .tup ([z.g, z.u, z.v, z.x, z.y].map .int)
structure ShOk (L R : Int) (z : Sh) : Prop where
  g1 : 1 ≤ z.g
  u1 : 1 ≤ z.u
  v1 : 1 ≤ z.v
  eL : L = z.g * z.u
  eR : R = z.g * z.v
  one : z.u * z.x + z.v * z.y = 1
  gb : Bd 200 z.g
  ub : Bd 200 z.u
  vb : Bd 200 z.v
  xb : Bd 200 z.x
  yb : Bd 200 z.y
/-- a step's state: both rows -/
structure Bz (L R a xa ya b xb yb : Int) : Prop where
  a1 : 1 ≤ a
  b0 : 0 ≤ b
  aL : a ≤ L ∨ a ≤ R
  bR : b ≤ R
  ea : L * xa + R * ya = a
  eb : L * xb + R * yb = b
  ex : ∃ p q r s : Int, 0 ≤ p ∧ 0 ≤ q ∧ 0 ≤ r ∧ 0 ≤ s ∧ ((xa = p ∧ xb = -q ∧ ya = -r ∧ yb = s) ∨ (xa = -p ∧ xb = q ∧ ya = r ∧ yb = -s)) ∧ a * q + b * p = R ∧ a * s + b * r = L ∧ p ≤ R ∧ r ≤ L
theorem Bz.init {L R : Int} (l : 1 ≤ L) (r : 1 ≤ R) : Bz L R L 1 0 R 0 1 := ⟨l, by omega, .inl (Int.le_refl _), Int.le_refl _, by omega, by omega, 1, 0, 0, 1, by omega, by omega, by omega, by omega, .inl ⟨rfl, by omega, by omega, rfl⟩, by omega, by omega, r, by omega⟩
theorem Bz.step {L R a xa ya b xb yb : Int} (h : Bz L R a xa ya b xb yb) (b1 : 0 < b) : Bz L R b xb yb (a - a / b * b) (xa - a / b * xb) (ya - a / b * yb) := by
  obtain ⟨a1, b0, aL, bR, ea, eb, p, q, r, s, p0, q0, r0, s0, hs, e1, e2, pR, rL⟩ := h
  have t0 : 0 ≤ a / b := Int.ediv_nonneg (by omega) b0
  have m := Int.emod_add_mul_ediv a b
  have m0 := Int.emod_nonneg a (by omega : b ≠ 0)
  have m1 := Int.emod_lt_of_pos a b1
  rw [Int.mul_comm b] at m
  generalize a / b = t at *
  have n0 : 0 ≤ a - t * b := by omega
  have bp := Int.mul_nonneg b0 p0
  have br := Int.mul_nonneg b0 r0
  have tq := Int.mul_nonneg t0 q0
  have ts := Int.mul_nonneg t0 s0
  have aq : q ≤ R := by
    have : 1 * q ≤ a * q := Int.mul_le_mul_of_nonneg_right a1 q0
    omega
  have as_ : s ≤ L := by
    have : 1 * s ≤ a * s := Int.mul_le_mul_of_nonneg_right a1 s0
    omega
  refine ⟨by omega, n0, .inr bR, by omega, eb, ?_, q, p + t * q, s, r + t * s, q0, by omega, s0, by omega, ?_, ?_, ?_, aq, as_⟩
  · have : L * (xa - t * xb) + R * (ya - t * yb) = (L * xa + R * ya) - t * (L * xb + R * yb) := by
      rw [Int.mul_sub, Int.mul_sub, Int.mul_add, Int.mul_left_comm L t xb, Int.mul_left_comm R t yb]; omega
    rw [this, ea, eb]
  · rcases hs with ⟨rfl, rfl, rfl, rfl⟩ | ⟨rfl, rfl, rfl, rfl⟩
    · right; exact ⟨rfl, by rw [Int.mul_neg]; omega, rfl, by omega⟩
    · left; exact ⟨rfl, by omega, by omega, by rw [Int.mul_neg]; omega⟩
  · have : b * (p + t * q) + (a - t * b) * q = a * q + b * p := by
      rw [Int.mul_add, Int.sub_mul, Int.mul_left_comm b t q, Int.mul_assoc t b q]; omega
    omega
  · have : b * (r + t * s) + (a - t * b) * s = a * s + b * r := by
      rw [Int.mul_add, Int.sub_mul, Int.mul_left_comm b t s, Int.mul_assoc t b s]; omega
    omega
theorem Bz.fin {L R a xa ya xb yb : Int} (h : Bz L R a xa ya 0 xb yb) (lb : Bd 200 L) (rb : Bd 200 R) (l1 : 1 ≤ L) (r1 : 1 ≤ R) : ShOk L R ⟨a, L / a, R / a, xa, ya⟩ := by
  obtain ⟨a1, b0, aL, bR, ea, eb, p, q, r, s, p0, q0, r0, s0, hs, e1, e2, pR, rL⟩ := h
  rw [Int.zero_mul, Int.add_zero] at e1 e2
  have a0 : a ≠ 0 := by omega
  have eq : R / a = q := by rw [← e1]; exact Int.mul_ediv_cancel_left _ a0
  have es : L / a = s := by rw [← e2]; exact Int.mul_ediv_cancel_left _ a0
  have q1 : 1 ≤ q := by
    apply Int.not_lt.mp; intro z
    have : q = 0 := by omega
    rw [this, Int.mul_zero] at e1; omega
  have s1 : 1 ≤ s := by
    apply Int.not_lt.mp; intro z
    have : s = 0 := by omega
    rw [this, Int.mul_zero] at e2; omega
  have one : s * xa + q * ya = 1 := by
    have : a * (s * xa + q * ya) = a * 1 := by
      rw [Int.mul_add, ← Int.mul_assoc, ← Int.mul_assoc, e1, e2, ea, Int.mul_one]
    exact Int.eq_of_mul_eq_mul_left a0 this
  have pb : Bd 200 p := rb.le p0 pR
  have rrb : Bd 200 r := lb.le r0 rL
  have ab : Bd 200 a := aL.elim (fun z => lb.le (by omega) z) fun z => rb.le (by omega) z
  refine ⟨a1, by rw [es]; exact s1, by rw [eq]; exact q1, by show L = a * (L / a); rw [es]; exact e2.symm, by show R = a * (R / a); rw [eq]; exact e1.symm, by show L / a * xa + R / a * ya = 1; rw [es, eq]; exact one, ab, lb.ediv, rb.ediv, ?_, ?_⟩
  · rcases hs with ⟨rfl, _⟩ | ⟨rfl, _⟩
    · exact pb
    · exact pb.neg
  · rcases hs with ⟨_, _, rfl, _⟩ | ⟨_, _, rfl, _⟩
    · exact rrb.neg
    · exact rrb
theorem Bz.bds {L R a xa ya b xb yb : Int} (h : Bz L R a xa ya b xb yb) (lb : Bd 200 L) (rb : Bd 200 R) : (Bd 200 a ∧ Bd 200 b) ∧ (Bd 200 xa ∧ Bd 200 ya) ∧ Bd 200 xb ∧ Bd 200 yb := by
  obtain ⟨a1, b0, aL, bR, ea, eb, p, q, r, s, p0, q0, r0, s0, hs, e1, e2, pR, rL⟩ := h
  have bp := Int.mul_nonneg b0 p0
  have br := Int.mul_nonneg b0 r0
  have aq : q ≤ R := by
    have : 1 * q ≤ a * q := Int.mul_le_mul_of_nonneg_right a1 q0
    omega
  have as_ : s ≤ L := by
    have : 1 * s ≤ a * s := Int.mul_le_mul_of_nonneg_right a1 s0
    omega
  have pb : Bd 200 p := rb.le p0 pR
  have rrb : Bd 200 r := lb.le r0 rL
  have qb : Bd 200 q := rb.le q0 aq
  have sb : Bd 200 s := lb.le s0 as_
  have ab : Bd 200 a := aL.elim (fun z => lb.le (by omega) z) fun z => rb.le (by omega) z
  refine ⟨⟨ab, rb.le b0 bR⟩, ?_⟩
  rcases hs with ⟨rfl, rfl, rfl, rfl⟩ | ⟨rfl, rfl, rfl, rfl⟩
  · exact ⟨⟨pb, rrb.neg⟩, qb.neg, sb⟩
  · exact ⟨⟨pb.neg, rrb⟩, qb, sb.neg⟩
/-! leads, judged -/
def rowsI (a xa ya b xb yb : Int) : D := .lst [.lst [.int a, .int xa, .int ya], .lst [.int b, .int xb, .int yb]]
def sp_law_parts_of : PV.Spec := nspec (fun p : Int × Int => [.int p.1, .int p.2]) (fun p => (1 ≤ p.1 ∧ Bd 200 p.1) ∧ 1 ≤ p.2 ∧ Bd 200 p.2) (fun p z => ShOk p.1 p.2 z) false (fun _ z => shsD z) (fun _ _ => [.non, .non])
def sp_law_is_integer : PV.Spec := dspec (fun d : D => [d]) (fun d => plnD d = true) (fun d => .bl (isFig d))
def sp_law_judged : PV.Spec := dspec (fun p : ((List Tk × Nat × Nat) × Int) × D => [.lst (p.1.1.1.map rowD), .int (p.1.1.2.1 : Nat), .int (p.1.1.2.2 : Nat), .int p.1.2, p.2]) (fun p => Two p.1.1.1 p.1.1.2.1 p.1.1.2.2 ∧ CtOk p.2 ∧ (∀ t ∈ p.1.1.1, Bd 1000 t.begin) ∧ Bd 1000 p.1.2) (fun p => .bl (shL p.1.1.1 p.1.1.2.1 p.1.1.2.2 p.1.2 p.2))
structure ShB (z : Sh) : Prop where
  gb : Bd 200 z.g
  ub : Bd 200 z.u
  vb : Bd 200 z.v
  xb : Bd 200 z.x
  yb : Bd 200 z.y
theorem ShOk.b {L R : Int} {z : Sh} (h : ShOk L R z) : ShB z := ⟨h.gb, h.ub, h.vb, h.xb, h.yb⟩
def sp_law_changed : PV.Spec := nspec (fun p : Hw × Sh => [hwD p.1, shsD p.2]) (fun p => HwOk p.1 ∧ ShB p.2) (fun _ (y : D × Hw) => CtOk y.1 ∧ HwOk y.2) false (fun _ y => y.1) (fun _ y => [hwD y.2, .non])
def sp_law_all_right : PV.Spec := nspec (fun w : Hw => [hwD w]) (fun w => HwOk w) (fun _ (y : Hw) => HwOk y) false (fun _ _ => .bl true) (fun _ y => [hwD y])
theorem ct5 {a b c d e : Int} (ha : Bd 3900 a) (hb : Bd 3900 b) (hc : Bd 3900 c) (hd : Bd 3900 d) (he : Bd 3900 e) : CtOk (.tup [.int a, .int b, .int c, .int d, .int e]) := ct_tup (Nat.le_of_ble_eq_true rfl) fun x hx => by
  rcases mem5 hx with rfl | rfl | rfl | rfl | rfl <;> exact el_int (by assumption)
theorem eqv_two (a b c d : Int) : PyData.eqv (.list [.int a, .int b]) (.list [.int c, .int d]) = (decide (a = c) && decide (b = d)) := by
  by_cases h1 : a = c <;> by_cases h2 : b = d <;> simp [PyData.eqv, PyData.eqvAll, h1, h2]
theorem shaped_two (a b : Int) : SeqAt.shaped (.list [.int a, .int b]) = true := by
  obtain ⟨q, e, c, d⟩ := (pl_lst (n := 0) (ds := [.int a, .int b]) fun x hx => by
    rcases mem2 hx with rfl | rfl <;> exact pl_int _ : PlOk 1 _)
  cases (show some (PyData.list [.int a, .int b]) = some q from e)
  exact shaped_of c d (by decide)
/-- a crew of takers and one more -/
def zzT (s b : Int) : Tk := ⟨"zzzz", s, b⟩
theorem zz_fr {ts : List Tk} (h : CrOk 3 ts) {s b f : Int} (s1 : 1 ≤ s) (s6 : s ≤ 6) (b0 : 0 ≤ b) (b9 : b ≤ 8) (f1 : 1 ≤ f) (fb : f < 2 ^ 100) : FrOk (fT f (ts ++ [zzT s b])) := by
  have few := h.few
  have one := h.ok.one
  have ml : (fT f (ts ++ [zzT s b])).length = ts.length + 1 := by unfold fT; rw [List.length_map, List.length_append]; rfl
  have nmz : isNm (.str (zzT s b).name) = true := by
    show isNm (.str "zzzz") = true
    refine isNm_of (by decide +kernel) (by decide +kernel) ?_
    unfold Lets; decide +kernel
  have mem : ∀ u ∈ fT f (ts ++ [zzT s b]), ∃ t, ((t ∈ ts) ∨ t = zzT s b) ∧ u = ⟨t.name, t.stride * f, t.begin * f⟩ := fun u hu => by
    obtain ⟨t, ht, rfl⟩ := List.mem_map.mp hu
    refine ⟨t, ?_, rfl⟩
    rcases List.mem_append.mp ht with h | h
    · exact .inl h
    · exact .inr (List.mem_singleton.mp h)
  have sd : s ∣ 360 := by
    have : s = 1 ∨ s = 2 ∨ s = 3 ∨ s = 4 ∨ s = 5 ∨ s = 6 := by omega
    rcases this with rfl | rfl | rfl | rfl | rfl | rfl <;> decide
  have inn : ∀ t, (t ∈ ts ∨ t = zzT s b) → isNm (.str t.name) = true ∧ (1 ≤ t.stride ∧ t.stride ≤ 36) ∧ t.stride ∣ 360 ∧ 0 ≤ t.begin ∧ t.begin ≤ 13 := fun t ht => by
    rcases ht with m | rfl
    · exact ⟨(h.ok.ok t m).nm, ⟨(h.ok.ok t m).st, h.st t m⟩, h.dv t m, (h.ok.ok t m).bg, h.bg t m⟩
    · exact ⟨nmz, ⟨s1, show s ≤ 36 by omega⟩, sd, b0, show b ≤ 13 by omega⟩
  refine fr_ok2 f1 fb (by omega) (by omega) ?_ (fun u hu => ?_) (fun u hu => ?_) (fun u hu => ?_)
  · have : (fT f (ts ++ [zzT s b])).map (·.name) = ts.map (·.name) ++ [(zzT s b).name] := by unfold fT; rw [List.map_map, List.map_append]; rfl
    rw [this, List.nodup_append]
    refine ⟨h.ok.nd, by simp, fun x hx y hy e => ?_⟩
    obtain ⟨t, tm, rfl⟩ := List.mem_map.mp hx
    rw [List.mem_singleton] at hy
    have l4 := h.l4 t tm
    rw [e, hy] at l4
    exact l4 (show (Str.ofString "zzzz").length = 4 by decide +kernel)
  · obtain ⟨t, ht, rfl⟩ := mem u hu
    exact (inn t ht).1
  · obtain ⟨t, ht, rfl⟩ := mem u hu
    obtain ⟨_, ⟨a1, a2⟩, dv, _⟩ := inn t ht
    have p1 := Int.mul_le_mul_of_nonneg_right a1 (show 0 ≤ f by omega)
    have p2 := Int.mul_le_mul_of_nonneg_right a2 (show 0 ≤ f by omega)
    exact ⟨⟨by show f ≤ t.stride * f; omega, p2⟩, Int.mul_dvd_mul_right f dv⟩
  · obtain ⟨t, ht, rfl⟩ := mem u hu
    obtain ⟨_, _, _, a1, a2⟩ := inn t ht
    have q1 := Int.mul_nonneg a1 (show 0 ≤ f by omega)
    have q2 := Int.mul_le_mul_of_nonneg_right a2 (show 0 ≤ f by omega)
    exact ⟨q1, by show t.begin * f ≤ 13 * f + 4; omega⟩
theorem leadT_bd {ts : List Tk} {i j : Nat} (h : Two ts i j) (hF : FrOk ts) : Bd 210 (leadT ts i j) := by
  have bi := hF.gb _ (getT_mem h.hi)
  have bj := hF.gb _ (getT_mem h.hj)
  have lb : Bd 202 (limT ts i j) := by
    unfold limT
    refine (bj.sub bi).sub ?_
    split <;> (unfold Bd; exact Nat.lt_of_lt_of_le (by decide : _ < 2 ^ 1) (Nat.pow_le_pow_right (by decide) (by decide)))
  have cb : Bd 202 (cellT ts i j) := lb.ediv
  have sb : Bd 202 ((getT ts i).stride / ((divT ts i j : Nat) : Int)) := Bd.ediv ((hF.sb _ (getT_mem h.hi)).mono (by decide))
  unfold leadT
  split
  · exact (cb.add sb).mono (by decide)
  · exact Bd.zero
theorem sh_lead {ts : List Tk} {i j : Nat} (h : Two ts i j) {z : Sh} (hz : ShOk (getT ts i).stride (getT ts j).stride z) (k : Int) : ldB ts i j k (shsD z) = decide (leadT ts i j ≤ k) := by
  unfold ldB
  rw [if_neg h.ne]
  have := shL_iff h (k := k) (d := shsD z) rfl hz.g1 hz.u1 hz.v1 hz.eL hz.eR hz.one
  cases e : shL ts i j k (shsD z) with
  | true => exact (decide_eq_true (this.mp e)).symm
  | false => exact (decide_eq_false fun q => by rw [this.mpr q] at e; cases e).symm
abbrev sp_law : PV.Spec := lawSpB

end SD

namespace SD
open PySem L2 PV
noncomputable def spsL : List PV.Spec := [sp_law_take, sp_law_pull, sp_law_fresh_labels, sp_law_drawn_crew, sp_law_written, sp_law_divisor, sp_law_turns_in, sp_law_parts_of, sp_law_dealt, sp_law_greatest, spNo, sp_is_name, sp_amount_in, sp_is_whole, sp_is_stride, sp_check_stride, sp_is_amount, sp_check_number, sp_Taker_init, sp_taker_in, sp_takers_in, sp_check_takers, sp_common_divisor, sp_common_multiple, sp_Taker_turns_below, sp_Deal_all_below, sp_Deal_init, sp_Deal_read, sp_deal_written, sp_is_figure, sp_is_count, spNo, sp_is_row_of, sp_shows_lead, sp_is_lead_shown, spNo, spNo, sp_holds, spNo, sp_law_marred_r1, sp_law_marred_r2, sp_law_changed, sp_law_is_integer, sp_law_judged, sp_law_all_right, sp_law_hatful, sp_law]
noncomputable def spsT (i : Nat) : PV.Spec := spsL.getD i spNo
noncomputable abbrev GT (r : Nat) : Gt := G0 spsT r
def Kp_law_take (sp : PV.Spec) : Prop := ∀ r, Keeps (GT r) 4 [true, false] B_law_take sp
def Kp_law_pull (sp : PV.Spec) : Prop := ∀ r, Keeps (GT r) 2 [true, false] B_law_pull sp
def Kp_law_fresh_labels (sp : PV.Spec) : Prop := ∀ r, Keeps (GT r) 5 [true, false] B_law_fresh_labels sp
def Kp_law_drawn_crew (sp : PV.Spec) : Prop := ∀ r, Keeps (GT r) 5 [true, false] B_law_drawn_crew sp
def Kp_law_written (sp : PV.Spec) : Prop := ∀ r, Keeps (GT r) 4 [false] B_law_written sp
def Kp_law_divisor (sp : PV.Spec) : Prop := ∀ r, Keeps (GT r) 2 [false, false] B_law_divisor sp
def Kp_law_turns_in (sp : PV.Spec) : Prop := ∀ r, Keeps (GT r) 7 [false] B_law_turns_in sp
def Kp_law_parts_of (sp : PV.Spec) : Prop := ∀ r, Keeps (GT r) 6 [false, false] B_law_parts_of sp
def Kp_law_dealt (sp : PV.Spec) : Prop := ∀ r, Keeps (GT r) 8 [false, false] B_law_dealt sp
def Kp_law_greatest (sp : PV.Spec) : Prop := ∀ r, Keeps (GT r) 11 [false, false, false] B_law_greatest sp
def Kp_is_log_shown (sp : PV.Spec) : Prop := ∀ r, Keeps (GT r) 5 [false, false] B_is_log_shown sp
def Kp_is_name (sp : PV.Spec) : Prop := ∀ r, Keeps (GT r) 2 [false] B_is_name sp
def Kp_amount_in (sp : PV.Spec) : Prop := ∀ r, Keeps (GT r) 3 [false] B_amount_in sp
def Kp_is_whole (sp : PV.Spec) : Prop := ∀ r, Keeps (GT r) 1 [false] B_is_whole sp
def Kp_is_stride (sp : PV.Spec) : Prop := ∀ r, Keeps (GT r) 1 [false] B_is_stride sp
def Kp_check_stride (sp : PV.Spec) : Prop := ∀ r, Keeps (GT r) 1 [false] B_check_stride sp
def Kp_is_amount (sp : PV.Spec) : Prop := ∀ r, Keeps (GT r) 1 [false] B_is_amount sp
def Kp_check_number (sp : PV.Spec) : Prop := ∀ r, Keeps (GT r) 1 [false] B_check_number sp
def Kp_Taker_init (sp : PV.Spec) : Prop := ∀ r, Keeps (GT r) 4 [true, false, false, false] B_Taker_init sp
def Kp_taker_in (sp : PV.Spec) : Prop := ∀ r, Keeps (GT r) 4 [false] B_taker_in sp
def Kp_takers_in (sp : PV.Spec) : Prop := ∀ r, Keeps (GT r) 5 [false] B_takers_in sp
def Kp_check_takers (sp : PV.Spec) : Prop := ∀ r, Keeps (GT r) 4 [false] B_check_takers sp
def Kp_common_divisor (sp : PV.Spec) : Prop := ∀ r, Keeps (GT r) 2 [false, false] B_common_divisor sp
def Kp_common_multiple (sp : PV.Spec) : Prop := ∀ r, Keeps (GT r) 3 [false] B_common_multiple sp
def Kp_Taker_turns_below (sp : PV.Spec) : Prop := ∀ r, Keeps (GT r) 2 [false, false] B_Taker_turns_below sp
def Kp_Deal_all_below (sp : PV.Spec) : Prop := ∀ r, Keeps (GT r) 3 [false, false] B_Deal_all_below sp
def Kp_Deal_init (sp : PV.Spec) : Prop := ∀ r, Keeps (GT r) 6 [true, false] B_Deal_init sp
def Kp_Deal_read (sp : PV.Spec) : Prop := ∀ r, Keeps (GT r) 2 [false] B_Deal_read sp
def Kp_deal_written (sp : PV.Spec) : Prop := ∀ r, Keeps (GT r) 1 [false] B_deal_written sp
def Kp_is_figure (sp : PV.Spec) : Prop := ∀ r, Keeps (GT r) 1 [false] B_is_figure sp
def Kp_is_count (sp : PV.Spec) : Prop := ∀ r, Keeps (GT r) 1 [false] B_is_count sp
def Kp_shows_turn (sp : PV.Spec) : Prop := ∀ r, Keeps (GT r) 7 [false, false, false, false] B_shows_turn sp
def Kp_is_row_of (sp : PV.Spec) : Prop := ∀ r, Keeps (GT r) 2 [false, false] B_is_row_of sp
def Kp_shows_lead (sp : PV.Spec) : Prop := ∀ r, Keeps (GT r) 16 [false, false, false, false] B_shows_lead sp
def Kp_is_lead_shown (sp : PV.Spec) : Prop := ∀ r, Keeps (GT r) 6 [false, false, false] B_is_lead_shown sp
def Kp_shows_alike (sp : PV.Spec) : Prop := ∀ r, Keeps (GT r) 9 [false, false, false] B_shows_alike sp
def Kp_is_unlike_shown (sp : PV.Spec) : Prop := ∀ r, Keeps (GT r) 9 [false, false, false, false] B_is_unlike_shown sp
def Kp_holds (sp : PV.Spec) : Prop := ∀ r, Keeps (GT r) 5 [false, false] B_holds sp
def Kp_law_marred_r0 (sp : PV.Spec) : Prop := ∀ r, Keeps (GT r) 3 [true, false] B_law_marred_r0 sp
def Kp_law_marred_r1 (sp : PV.Spec) : Prop := ∀ r, Keeps (GT r) 3 [true, false] B_law_marred_r1 sp
def Kp_law_marred_r2 (sp : PV.Spec) : Prop := ∀ r, Keeps (GT r) 3 [true, false] B_law_marred_r2 sp
def Kp_law_changed (sp : PV.Spec) : Prop := ∀ r, Keeps (GT r) 8 [true, false] B_law_changed sp
def Kp_law_is_integer (sp : PV.Spec) : Prop := ∀ r, Keeps (GT r) 1 [false] B_law_is_integer sp
def Kp_law_judged (sp : PV.Spec) : Prop := ∀ r, Keeps (GT r) 12 [false, false, false, false, false] B_law_judged sp
def Kp_law_all_right (sp : PV.Spec) : Prop := ∀ r, Keeps (GT r) 18 [true] B_law_all_right sp
def Kp_law_hatful (sp : PV.Spec) : Prop := ∀ r, Keeps (GT r) 5 [false, false] B_law_hatful sp
def Kp_law (sp : PV.Spec) : Prop := ∀ r, Keeps (GT r) 2 [false] B_law sp
end SD

namespace SD
open PySem L2 PV
theorem c_law_take (sps : Nat → PV.Spec) : cmpSs (G0 sps 1) (lkOf [true, false]) B_law_take ⟨N_law_take, defScope S_law_take, none⟩ (defBody S_law_take) = true := by rfl
theorem c_law_pull (sps : Nat → PV.Spec) : cmpSs (G0 sps 3) (lkOf [true, false]) B_law_pull ⟨N_law_pull, defScope S_law_pull, none⟩ (defBody S_law_pull) = true := by rfl
theorem c_law_fresh_labels (sps : Nat → PV.Spec) : cmpSs (G0 sps 5) (lkOf [true, false]) B_law_fresh_labels ⟨N_law_fresh_labels, defScope S_law_fresh_labels, none⟩ (defBody S_law_fresh_labels) = true := by rfl
theorem c_law_drawn_crew (sps : Nat → PV.Spec) : cmpSs (G0 sps 7) (lkOf [true, false]) B_law_drawn_crew ⟨N_law_drawn_crew, defScope S_law_drawn_crew, none⟩ (defBody S_law_drawn_crew) = true := by rfl
theorem c_law_written (sps : Nat → PV.Spec) : cmpSs (G0 sps 9) (lkOf [false]) B_law_written ⟨N_law_written, defScope S_law_written, none⟩ (defBody S_law_written) = true := by rfl
theorem c_law_divisor (sps : Nat → PV.Spec) : cmpSs (G0 sps 11) (lkOf [false, false]) B_law_divisor ⟨N_law_divisor, defScope S_law_divisor, none⟩ (defBody S_law_divisor) = true := by rfl
theorem c_law_turns_in (sps : Nat → PV.Spec) : cmpSs (G0 sps 13) (lkOf [false]) B_law_turns_in ⟨N_law_turns_in, defScope S_law_turns_in, none⟩ (defBody S_law_turns_in) = true := by rfl
theorem c_law_parts_of (sps : Nat → PV.Spec) : cmpSs (G0 sps 15) (lkOf [false, false]) B_law_parts_of ⟨N_law_parts_of, defScope S_law_parts_of, none⟩ (defBody S_law_parts_of) = true := by rfl
theorem c_law_dealt (sps : Nat → PV.Spec) : cmpSs (G0 sps 17) (lkOf [false, false]) B_law_dealt ⟨N_law_dealt, defScope S_law_dealt, none⟩ (defBody S_law_dealt) = true := by rfl
theorem c_law_greatest (sps : Nat → PV.Spec) : cmpSs (G0 sps 19) (lkOf [false, false, false]) B_law_greatest ⟨N_law_greatest, defScope S_law_greatest, none⟩ (defBody S_law_greatest) = true := by rfl
theorem c_is_name (sps : Nat → PV.Spec) : cmpSs (G0 sps 23) (lkOf [false]) B_is_name ⟨N_is_name, defScope S_is_name, none⟩ (defBody S_is_name) = true := by rfl
theorem c_amount_in (sps : Nat → PV.Spec) : cmpSs (G0 sps 25) (lkOf [false]) B_amount_in ⟨N_amount_in, defScope S_amount_in, none⟩ (defBody S_amount_in) = true := by rfl
theorem c_is_whole (sps : Nat → PV.Spec) : cmpSs (G0 sps 27) (lkOf [false]) B_is_whole ⟨N_is_whole, defScope S_is_whole, none⟩ (defBody S_is_whole) = true := by rfl
theorem c_is_stride (sps : Nat → PV.Spec) : cmpSs (G0 sps 29) (lkOf [false]) B_is_stride ⟨N_is_stride, defScope S_is_stride, none⟩ (defBody S_is_stride) = true := by rfl
theorem c_check_stride (sps : Nat → PV.Spec) : cmpSs (G0 sps 31) (lkOf [false]) B_check_stride ⟨N_check_stride, defScope S_check_stride, none⟩ (defBody S_check_stride) = true := by rfl
theorem c_is_amount (sps : Nat → PV.Spec) : cmpSs (G0 sps 33) (lkOf [false]) B_is_amount ⟨N_is_amount, defScope S_is_amount, none⟩ (defBody S_is_amount) = true := by rfl
theorem c_check_number (sps : Nat → PV.Spec) : cmpSs (G0 sps 35) (lkOf [false]) B_check_number ⟨N_check_number, defScope S_check_number, none⟩ (defBody S_check_number) = true := by rfl
theorem c_Taker_init (sps : Nat → PV.Spec) : cmpSs (G0 sps 37) (lkOf [true, false, false, false]) B_Taker_init ⟨N_Taker_init, defScope S_Taker_init, none⟩ (defBody S_Taker_init) = true := by rfl
theorem c_taker_in (sps : Nat → PV.Spec) : cmpSs (G0 sps 39) (lkOf [false]) B_taker_in ⟨N_taker_in, defScope S_taker_in, none⟩ (defBody S_taker_in) = true := by rfl
theorem c_takers_in (sps : Nat → PV.Spec) : cmpSs (G0 sps 41) (lkOf [false]) B_takers_in ⟨N_takers_in, defScope S_takers_in, none⟩ (defBody S_takers_in) = true := by rfl
theorem c_check_takers (sps : Nat → PV.Spec) : cmpSs (G0 sps 43) (lkOf [false]) B_check_takers ⟨N_check_takers, defScope S_check_takers, none⟩ (defBody S_check_takers) = true := by rfl
theorem c_common_divisor (sps : Nat → PV.Spec) : cmpSs (G0 sps 45) (lkOf [false, false]) B_common_divisor ⟨N_common_divisor, defScope S_common_divisor, none⟩ (defBody S_common_divisor) = true := by rfl
theorem c_common_multiple (sps : Nat → PV.Spec) : cmpSs (G0 sps 47) (lkOf [false]) B_common_multiple ⟨N_common_multiple, defScope S_common_multiple, none⟩ (defBody S_common_multiple) = true := by rfl
theorem c_Taker_turns_below (sps : Nat → PV.Spec) : cmpSs (G0 sps 49) (lkOf [false, false]) B_Taker_turns_below ⟨N_Taker_turns_below, defScope S_Taker_turns_below, none⟩ (defBody S_Taker_turns_below) = true := by rfl
theorem c_Deal_all_below (sps : Nat → PV.Spec) : cmpSs (G0 sps 51) (lkOf [false, false]) B_Deal_all_below ⟨N_Deal_all_below, defScope S_Deal_all_below, none⟩ (defBody S_Deal_all_below) = true := by rfl
theorem c_Deal_init (sps : Nat → PV.Spec) : cmpSs (G0 sps 53) (lkOf [true, false]) B_Deal_init ⟨N_Deal_init, defScope S_Deal_init, none⟩ (defBody S_Deal_init) = true := by rfl
theorem c_Deal_read (sps : Nat → PV.Spec) : cmpSs (G0 sps 55) (lkOf [false]) B_Deal_read ⟨N_Deal_read, defScope S_Deal_read, none⟩ (defBody S_Deal_read) = true := by rfl
theorem c_deal_written (sps : Nat → PV.Spec) : cmpSs (G0 sps 57) (lkOf [false]) B_deal_written ⟨N_deal_written, defScope S_deal_written, none⟩ (defBody S_deal_written) = true := by rfl
theorem c_is_figure (sps : Nat → PV.Spec) : cmpSs (G0 sps 59) (lkOf [false]) B_is_figure ⟨N_is_figure, defScope S_is_figure, none⟩ (defBody S_is_figure) = true := by rfl
theorem c_is_count (sps : Nat → PV.Spec) : cmpSs (G0 sps 61) (lkOf [false]) B_is_count ⟨N_is_count, defScope S_is_count, none⟩ (defBody S_is_count) = true := by rfl
theorem c_is_row_of (sps : Nat → PV.Spec) : cmpSs (G0 sps 65) (lkOf [false, false]) B_is_row_of ⟨N_is_row_of, defScope S_is_row_of, none⟩ (defBody S_is_row_of) = true := by rfl
theorem c_shows_lead (sps : Nat → PV.Spec) : cmpSs (G0 sps 67) (lkOf [false, false, false, false]) B_shows_lead ⟨N_shows_lead, defScope S_shows_lead, none⟩ (defBody S_shows_lead) = true := by rfl
theorem c_is_lead_shown (sps : Nat → PV.Spec) : cmpSs (G0 sps 69) (lkOf [false, false, false]) B_is_lead_shown ⟨N_is_lead_shown, defScope S_is_lead_shown, none⟩ (defBody S_is_lead_shown) = true := by rfl
theorem c_holds (sps : Nat → PV.Spec) : cmpSs (G0 sps 75) (lkOf [false, false]) B_holds ⟨N_holds, defScope S_holds, none⟩ (defBody S_holds) = true := by rfl
theorem c_law_marred_r1 (sps : Nat → PV.Spec) : cmpSs (G0 sps 79) (lkOf [true, false]) B_law_marred_r1 ⟨N_law_marred_r1, defScope S_law_marred_r1, none⟩ (defBody S_law_marred_r1) = true := by rfl
theorem c_law_marred_r2 (sps : Nat → PV.Spec) : cmpSs (G0 sps 81) (lkOf [true, false]) B_law_marred_r2 ⟨N_law_marred_r2, defScope S_law_marred_r2, none⟩ (defBody S_law_marred_r2) = true := by rfl
theorem c_law_changed (sps : Nat → PV.Spec) : cmpSs (G0 sps 83) (lkOf [true, false]) B_law_changed ⟨N_law_changed, defScope S_law_changed, none⟩ (defBody S_law_changed) = true := by rfl
theorem c_law_is_integer (sps : Nat → PV.Spec) : cmpSs (G0 sps 85) (lkOf [false]) B_law_is_integer ⟨N_law_is_integer, defScope S_law_is_integer, none⟩ (defBody S_law_is_integer) = true := by rfl
theorem c_law_judged (sps : Nat → PV.Spec) : cmpSs (G0 sps 87) (lkOf [false, false, false, false, false]) B_law_judged ⟨N_law_judged, defScope S_law_judged, none⟩ (defBody S_law_judged) = true := by rfl
theorem c_law_all_right (sps : Nat → PV.Spec) : cmpSs (G0 sps 89) (lkOf [true]) B_law_all_right ⟨N_law_all_right, defScope S_law_all_right, none⟩ (defBody S_law_all_right) = true := by rfl
theorem c_law_hatful (sps : Nat → PV.Spec) : cmpSs (G0 sps 91) (lkOf [false, false]) B_law_hatful ⟨N_law_hatful, defScope S_law_hatful, none⟩ (defBody S_law_hatful) = true := by rfl
theorem c_law (sps : Nat → PV.Spec) : cmpSs (G0 sps 93) (lkOf [false]) B_law ⟨N_law, defScope S_law, none⟩ (defBody S_law) = true := by rfl
end SD

-- step to the next thing that wants a word
local macro_rules | `(tactic| walk_at "frc") => `(tactic| refine PV.forceK_ok (by first | (dsimp only [PV.startE, PV.inE, PV.wipeE, PV.backE, PV.putO, PV.putD, List.set_cons_zero, List.set_cons_succ, List.set_nil, List.cons_append, List.nil_append, List.replicate, List.length_cons, List.length_nil, Nat.reduceAdd, Nat.reduceSub, Nat.reduceLT, decide_true, decide_false, cond_true, cond_false] <;> exact rfl) | exact rfl) ?_)
local macro_rules | `(tactic| walk_at "wgo") => `(tactic| ((conv => whnf); repeat (first | (walk_at "frc"; (conv => whnf)) | (refine PV.ifBF ?_; (conv => whnf)) | (refine PV.ifBT ?_; (conv => whnf)))))
-- bounds
local macro_rules | `(tactic| walk_at "bd0") => `(tactic| first | assumption | exact PV.Bd.lit rfl)
local macro_rules | `(tactic| walk_at "bd1") => `(tactic| first | assumption | exact PV.Bd.lit rfl | exact PV.Bd.mod (by first | omega | decide) (by walk_at "bd0") | exact PV.Bd.mul (by walk_at "bd0") (by walk_at "bd0") | exact PV.Bd.add' (by walk_at "bd0") (by walk_at "bd0") | exact PV.Bd.sub' (by walk_at "bd0") (by walk_at "bd0") | exact PV.Bd.neg (by walk_at "bd0"))
local macro_rules | `(tactic| walk_at "bd2") => `(tactic| first | assumption | exact PV.Bd.lit rfl | exact PV.Bd.mod (by first | omega | decide) (by walk_at "bd1") | exact PV.Bd.mul (by walk_at "bd1") (by walk_at "bd1") | exact PV.Bd.add' (by walk_at "bd1") (by walk_at "bd1") | exact PV.Bd.sub' (by walk_at "bd1") (by walk_at "bd1") | exact PV.Bd.neg (by walk_at "bd1"))
local macro_rules | `(tactic| walk_at "bd") => `(tactic| first | assumption | exact PV.Bd.lit rfl | exact PV.Bd.mod (by first | omega | decide) (by walk_at "bd2") | exact PV.Bd.mul (by walk_at "bd2") (by walk_at "bd2") | exact PV.Bd.add' (by walk_at "bd2") (by walk_at "bd2") | exact PV.Bd.sub' (by walk_at "bd2") (by walk_at "bd2") | exact PV.Bd.neg (by walk_at "bd2"))
-- what repr takes
local macro_rules | `(tactic| walk_at "shw") => `(tactic| first | rfl | exact PV.shw_int (by walk_at "bd") (by decide) | (refine PV.shw_list ?_; walk_at "shw") | (refine PV.shw_tup ?_; walk_at "shw") | exact PV.shw_nil | (refine PV.shw_cons ?_ ?_ <;> walk_at "shw"))
-- items: more of it in the parts
local macro_rules | `(tactic| walk_at "ix") => `(tactic| fail)
-- a plain word
local macro_rules | `(tactic| walk_at "pv1") => `(tactic| first | refine ⟨rfl, _, rfl, ?_⟩ | refine ⟨PV.lt_ rfl, (rfl : _ = true), ?_⟩ | refine ⟨rfl, PV.lt_ rfl, ?_⟩ | refine ⟨(rfl : _ = true), (rfl : _ = true), ?_⟩ | refine ⟨(rfl : _ = true), ?_⟩ | refine ⟨(rfl : List.contains _ _ = false), ?_⟩ | refine ⟨PV.lt_ rfl, ?_⟩ | refine ⟨trivial, ?_⟩ | refine ⟨⟨rfl, trivial⟩, ?_⟩ | refine ⟨(by decide +kernel : _ < _), ?_⟩ | refine ⟨(by decide +kernel : _ ≤ _), ?_⟩ | refine ⟨(by decide +kernel : _ ∧ _), ?_⟩ | refine ⟨_, rfl, ?_⟩ | refine ⟨PV.Bd.mulOk (by walk_at "bd") (by walk_at "bd") (by omega), ?_⟩ | refine ⟨⟨by omega, PV.Bd.divOk (by walk_at "bd") (by omega)⟩, ?_⟩ | refine ⟨(by omega : _ < _), ?_⟩ | refine ⟨(by omega : _ ≤ _), ?_⟩ | refine ⟨(by omega : _ ∧ _), ?_⟩ | refine ⟨PV.shownOk_of (by walk_at "shw") rfl (PV.lt_ rfl) (PV.lt_ rfl), ?_⟩ | walk_at "ix")
-- all plain words
local macro_rules | `(tactic| walk_at "pv") => `(tactic| (walk_at "wgo"; repeat (walk_at "pv1"; walk_at "wgo")))
-- calls: the ghost's parts
local macro_rules | `(tactic| walk_at "call") => `(tactic| first | refine PV.callK_d2 _ rfl rfl rfl rfl rfl ?_ ?_ | refine PV.callK_d2 ⟨_, _⟩ rfl rfl rfl rfl rfl ?_ ?_ | refine PV.callK_d2 ⟨_, _, _⟩ rfl rfl rfl rfl rfl ?_ ?_ | refine PV.callK_d2 ⟨_, _, _, _⟩ rfl rfl rfl rfl rfl ?_ ?_ | refine PV.callK_d2 ⟨_, _, _, _, _⟩ rfl rfl rfl rfl rfl ?_ ?_)
local macro_rules | `(tactic| walk_at "ix") => `(tactic| refine ⟨_, SD.ixTk (by assumption), ?_⟩)
local macro_rules | `(tactic| walk_at "ix") => `(tactic| refine ⟨_, SD.ixRow (by assumption), ?_⟩)
local macro_rules | `(tactic| walk_at "ix") => `(tactic| refine ⟨_, SD.ixTk (by assumption), ?_⟩)

namespace SD
open PySem L2 PV
theorem k_is_whole : Kp_is_whole sp_is_whole := by
  intro r
  refine keeps_d fun d hd => ⟨rfl, ?_⟩
  cases d <;> first
    | cases hd
    | skip
  · walk_at "wgo"; exact ⟨rfl, rfl, rfl⟩
  · rename_i b; cases b <;> (walk_at "wgo"; exact ⟨rfl, rfl, rfl⟩)
  · walk_at "wgo"; exact ⟨rfl, rfl, rfl⟩
  · walk_at "wgo"; exact ⟨rfl, rfl, rfl⟩
theorem k_is_amount : Kp_is_amount sp_is_amount := by
  intro r
  refine keeps_d fun d hd => ⟨rfl, ?_⟩
  cases d <;> first
    | cases hd
    | skip
  all_goals (walk_at "wgo"; refine callK_d _ rfl rfl rfl rfl rfl rfl ?_; walk_at "wgo"; exact ⟨rfl, rfl, rfl⟩)
theorem k_is_stride : Kp_is_stride sp_is_stride := by
  intro r
  refine keeps_d fun d hd => ⟨rfl, ?_⟩
  cases d <;> first
    | cases hd
    | skip
  all_goals (walk_at "wgo"; refine callK_d _ rfl rfl rfl rfl rfl rfl ?_; walk_at "wgo"; exact ⟨rfl, rfl, rfl⟩)
theorem k_check_number : Kp_check_number sp_check_number := by
  intro r
  refine keeps_d fun d hd => ⟨rfl, ?_⟩
  walk_at "wgo"
  refine callK_d _ rfl rfl rfl rfl rfl hd.1 ?_
  walk_at "wgo"
  rw [hd.2]
  walk_at "wgo"
  exact ⟨rfl, rfl, rfl⟩
theorem k_check_stride : Kp_check_stride sp_check_stride := by
  intro r
  refine keeps_d fun d hd => ⟨rfl, ?_⟩
  walk_at "wgo"
  refine callK_d _ rfl rfl rfl rfl rfl hd.1 ?_
  walk_at "wgo"
  rw [hd.2]
  walk_at "wgo"
  exact ⟨rfl, rfl, rfl⟩
theorem k_is_name : Kp_is_name sp_is_name := by
  intro r
  refine keeps_d fun d hd => ⟨rfl, ?_⟩
  cases d <;> first
    | cases hd.1
    | skip
  · walk_at "wgo"; exact ⟨rfl, rfl, rfl⟩
  · walk_at "wgo"; exact ⟨rfl, rfl, rfl⟩
  · walk_at "wgo"; exact ⟨rfl, rfl, rfl⟩
  · rename_i s
    have hs := hd.2 s rfl
    walk_at "wgo"
    refine ⟨hs, ?_⟩
    walk_at "wgo"
    have fin0 : isNm (.str s) = false → (fun fr d e => outK [false] e fun o => fr = false ∧ d = D.bl (isNm (.str s)) ∧ o = [D.non]) false (.bl false) [.val (.str s), .un] := fun e => by rw [e]; exact ⟨rfl, rfl, rfl⟩
    have nm : isNm (.str s) = (decide (0 < s.length) && decide (s.length ≤ 10) && s.cps.toList.all fun c => decide (c ∈ ALPHA.cps.toList)) := rfl
    refine ifB2 (fun h0 => ?_) (fun h0 => ?_)
    · have h0 := of_decide_eq_true h0
      walk_at "wgo"
      refine ifB2 (fun h1 => ?_) (fun h1 => ?_)
      · walk_at "wgo"
        exact fin0 (by rw [nm]; simp at h1; have : ¬ s.length ≤ 10 := by omega
                       simp [this])
      · walk_at "wgo"
        refine ⟨rfl, rfl, ?_⟩
        walk_at "wgo"
        refine lc_map s.cps.toList (fun c => .str ⟨#[c]⟩) (fun c => .bl (decide (c ∈ ALPHA.cps.toList))) rfl chk_nil (by show s.cps.toList.length ≤ _; simpa [Str.length] using hs) (fun c hc ky kn k => ?_) ?_
        · walk_at "wgo"; exact k
        · walk_at "wgo"
          rw [boolsD_map]
          walk_at "wgo"
          refine ⟨rfl, ?_, rfl⟩
          rw [nm]
          simp at h1
          have h3 : decide (0 < s.length) = true := by simpa using h0
          have h4 : decide (s.length ≤ 10) = true := by simp; omega
          rw [h3, h4, List.all_map]
          rfl
    · walk_at "wgo"
      exact fin0 (by rw [nm]; simp at h0; simp [h0])
theorem k_amount_in : Kp_amount_in sp_amount_in := by
  intro r
  refine keeps_d fun s hs => ⟨rfl, ?_⟩
  have sl : s.length = s.cps.toList.length := by simp [Str.length]
  have bad : amountIn s = -1 → (fun fr d e => outK [false] e fun o => fr = false ∧ d = D.int (amountIn s) ∧ o = [D.non]) false (.int (-1)) [.val (.str s), .un, .un] := fun e => by rw [e]; exact ⟨rfl, rfl, rfl⟩
  walk_at "wgo"
  refine ifB2 (fun h => ?_) (fun h => ?_)
  · walk_at "wgo"
    refine bad ?_
    have h : s = Str.ofString "" := of_decide_eq_true h
    subst h
    decide +kernel
  have hne : s ≠ Str.ofString "" := of_decide_eq_false h
  have h0 : s.length ≠ 0 := fun z => by
    apply hne
    obtain ⟨cps⟩ := s
    have : cps = #[] := by
      have z : cps.size = 0 := z
      exact Array.eq_empty_of_size_eq_zero z
    subst this
    decide +kernel
  walk_at "wgo"
  refine ⟨rfl, rfl, ?_⟩
  walk_at "wgo"
  refine lc_map s.cps.toList (fun c => .str ⟨#[c]⟩) (fun c => .bl (!decide (c ∈ DIG.cps.toList))) rfl chk_nil (by rw [← sl]; exact Nat.le_trans hs (by decide)) (fun c hc ky kn k => ?_) ?_
  · walk_at "wgo"; exact k
  walk_at "wgo"
  rw [boolsD_map]
  walk_at "wgo"
  have any : ((s.cps.toList.map fun c => !decide (c ∈ DIG.cps.toList)).any id) = s.cps.toList.any fun c => !decide (c ∈ DIG.cps.toList) := by rw [List.any_map]; rfl
  rw [any]
  refine ifB2 (fun h1 => ?_) (fun h1 => ?_)
  · walk_at "wgo"
    exact bad (by unfold amountIn; rw [if_pos (.inr (.inl h1))])
  have alld : ∀ c ∈ s.cps.toList, c ∈ DIG.cps.toList := fun c hc => by
    cases hb : decide (c ∈ DIG.cps.toList) with
    | true => exact of_decide_eq_true hb
    | false =>
      have z := List.any_eq_false.mp h1 c hc
      rw [hb] at z
      exact absurd rfl z
  walk_at "wgo"
  obtain ⟨c0, rest, hc⟩ : ∃ c0 rest, s.cps.toList = c0 :: rest := by
    cases q : s.cps.toList with
    | nil => rw [q] at sl; exact absurd sl h0
    | cons a b => exact ⟨a, b, rfl⟩
  refine ⟨_, ixS 0 (Nat.le_trans hs (by decide)) (by rw [hc]; rfl), ?_⟩
  walk_at "wgo"
  -- the number
  have good : ¬ (s.cps.toList.head? = some 48 ∧ s.length ≠ 1) → wpSs (GT r) (lkOf [false])
      [.asg 1 (.v (.lit (.int 0))), .forr (.nm 2) (.it (.p (.var 0))) [.asg 1 (.v (.bin .add (.bin .mul (.lit (.int 10)) (.var 1)) (.mi .sindex (.p (.glob 2)) [.p (.var 2)])))], .ret (.v (.var 1))]
      { nx := fun e => outK [false] e fun o => false = false ∧ D.non = D.int (amountIn s) ∧ o = [D.non], rt := fun fr d e => outK [false] e fun o => fr = false ∧ d = D.int (amountIn s) ∧ o = [D.non], bk := fun _ => False, ct := fun _ => False } [.val (.str s), .un, .un] := by
    intro hz
    have ev : amountIn s = digs s.cps.toList := by
      unfold amountIn
      rw [if_neg (by rintro (z | z | z); exact h0 z; rw [h1] at z; cases z; exact hz z)]
      rfl
    walk_at "wgo"
    refine ⟨by simp, ?_⟩
    walk_at "wgo"
    refine ⟨trivial, ?_⟩
    refine for_ix (fun i e => ∃ y, e = [.val (.str s), .val (.int (digs (s.cps.toList.take i))), y]) ⟨.un, rfl⟩ (fun i d e hd p k kk => ?_) (fun e p => ?_)
    · obtain ⟨y, rfl⟩ := p
      have hd : (s.cps.toList.map fun c => D.str ⟨#[c]⟩)[i]? = some d := hd
      rw [List.getElem?_map] at hd
      cases q : s.cps.toList[i]? with
      | none => rw [q] at hd; cases hd
      | some c =>
        rw [q] at hd
        cases hd
        have cd : c ∈ DIG.cps.toList := alld c (List.mem_of_getElem? q)
        have bd := digs_bd _ (s.cps.toList.take i) rfl fun c hc => alld c (List.mem_of_mem_take hc)
        walk_at "wgo"
        refine ⟨?_, ?_⟩
        · have := log2_lt bd.1 bd.2
          rw [List.length_take] at this
          have e10 : (10 : Int).natAbs.log2 = 3 := by decide +kernel
          rw [e10]
          omega
        walk_at "wgo"
        refine ⟨rfl, ?_⟩
        walk_at "wgo"
        refine ⟨_, index_dig cd, ?_⟩
        walk_at "wgo"
        refine ⟨by simp, kk _ ⟨.val (.str ⟨#[c]⟩), ?_⟩⟩
        rw [List.take_add_one, q]
        show _ = [Sl.val (.str s), .val (.int (digs (s.cps.toList.take i ++ [c]))), _]
        rw [digs_snoc]
        rfl
    · obtain ⟨y, rfl⟩ := p
      have len : (strItems s).length = s.cps.toList.length := by simp [strItems]
      rw [len, List.take_length]
      walk_at "wgo"
      exact ⟨rfl, by rw [ev], rfl⟩
  have zero : Str.ofString "0" = ⟨#[48]⟩ := by decide +kernel
  refine ifB2 (fun h2 => ?_) (fun h2 => ?_)
  · have h2 : (⟨#[c0]⟩ : Str) = Str.ofString "0" := of_decide_eq_true h2
    rw [zero] at h2
    have hc0 : c0 = 48 := by simpa using h2
    subst hc0
    have isz : s.length = 1 → s = Str.ofString "0" := fun z => by
      rw [zero]
      obtain ⟨cps⟩ := s
      have hc : cps.toList = 48 :: rest := hc
      have hl : cps.toList.length = 1 := by rw [← z]; simp [Str.length]
      rw [hc] at hl
      have : rest = [] := by simpa using hl
      subst this
      have : cps = #[48] := by rw [← Array.toArray_toList (xs := cps), hc]
      rw [this]
    walk_at "wgo"
    refine ifB2 (fun h3 => ?_) (fun h3 => ?_)
    · walk_at "wgo"
      refine bad ?_
      have h3 : (!decide (s = Str.ofString "0")) = true := h3
      have ns : s ≠ Str.ofString "0" := by simpa using h3
      unfold amountIn
      rw [if_pos (.inr (.inr ⟨by rw [hc]; rfl, fun z => ns (isz z)⟩))]
    · have h3 : (!decide (s = Str.ofString "0")) = false := h3
      have es : s = Str.ofString "0" := by simpa using h3
      exact good (by rintro ⟨_, z⟩; apply z; rw [es]; decide +kernel)
  · have h2 : decide ((⟨#[c0]⟩ : Str) = Str.ofString "0") = false := h2
    rw [zero] at h2
    have n48 : c0 ≠ 48 := fun e => of_decide_eq_false h2 (by rw [e])
    refine ifBF ?_
    exact good (by rintro ⟨z, _⟩; rw [hc] at z; exact n48 (by simpa using z))

theorem k_Taker_init : Kp_Taker_init sp_Taker_init := by
  intro r
  refine keeps_u fun t ht => ⟨rfl, ?_⟩
  walk_at "wgo"
  refine callK_d (.str t.name) rfl rfl rfl rfl rfl ⟨rfl, fun s e => by cases e; exact Nat.le_trans ht.len (by decide)⟩ ?_
  walk_at "wgo"
  rw [ht.nm]
  walk_at "wgo"
  refine callK_d (.int t.stride) rfl rfl rfl rfl rfl ⟨rfl, (show isSt (.int t.stride) = true from decide_eq_true ht.st)⟩ ?_
  walk_at "wgo"
  refine callK_d (.int t.begin) rfl rfl rfl rfl rfl ⟨rfl, (show isAm (.int t.begin) = true from decide_eq_true ht.bg)⟩ ?_
  walk_at "wgo"
  refine ⟨rfl, Nat.zero_le _, ?_⟩
  walk_at "wgo"
  refine ⟨rfl, Nat.le_refl 1, ?_⟩
  walk_at "wgo"
  refine ⟨rfl, Nat.le_refl 2, ?_⟩
  walk_at "wgo"
  exact ⟨rfl, rfl, rfl⟩
theorem k_taker_in : Kp_taker_in sp_taker_in := by
  intro r
  refine keeps_d fun s hs => ⟨rfl, ?_⟩
  walk_at "wgo"
  refine ⟨rfl, ⟨by decide +kernel, Nat.le_trans (Nat.add_le_add_right hs 2) (by decide)⟩, ?_⟩
  walk_at "wgo"
  refine ⟨lt_ rfl, ?_⟩
  have lens := split_lens (s := s) (y := Str.ofString " ")
  have tin : takerIn s = match Txt.split s (Str.ofString " ") with
    | [a, b, c] => if isNm (.str a) = true ∧ 1 ≤ amountIn b ∧ 0 ≤ amountIn c then tkD ⟨a, amountIn b, amountIn c⟩ else .non
    | _ => .non := rfl
  revert lens tin
  generalize Txt.split s (Str.ofString " ") = ws
  intro lens tin
  have bad : ∀ e2 e3, takerIn s = .non → (fun fr d e => outK [false] e fun o => fr = false ∧ d = takerIn s ∧ o = [D.non]) false .non [.val (.str s), .val (.lst (ws.map .str)), e2, e3] := fun _ _ e => by rw [e]; exact ⟨rfl, rfl, rfl⟩
  rcases ws with _ | ⟨a, _ | ⟨b, _ | ⟨c, _ | ⟨d, ws⟩⟩⟩⟩
  · walk_at "wgo"; exact bad .un .un tin
  · walk_at "wgo"; exact bad .un .un tin
  · walk_at "wgo"; exact bad .un .un tin
  rotate_left
  · walk_at "wgo"; exact bad .un .un tin
  have la := lens a (by simp)
  have lb := lens b (by simp)
  have lc := lens c (by simp)
  walk_at "wgo"
  refine ⟨_, ixL 0 rfl, ?_⟩
  walk_at "wgo"
  refine callK_d (.str a) rfl rfl rfl rfl rfl ⟨rfl, fun z e => by cases e; exact Nat.le_trans la (Nat.le_trans hs (by decide))⟩ ?_
  walk_at "wgo"
  refine ifB2 (fun h => ?_) (fun h => ?_)
  · have hn : isNm (.str a) = false := by
      have h : (!isNm (.str a)) = true := h
      simpa using h
    walk_at "wgo"
    refine bad .un .un ?_
    rw [tin]
    show (if isNm (.str a) = true ∧ 1 ≤ amountIn b ∧ 0 ≤ amountIn c then _ else _) = _
    rw [if_neg (by rw [hn]; rintro ⟨z, _⟩; cases z)]
  have hn : isNm (.str a) = true := by
    have h : (!isNm (.str a)) = false := h
    simpa using h
  walk_at "wgo"
  refine ⟨_, ixL 1 rfl, ?_⟩
  walk_at "wgo"
  refine callK_d b rfl rfl rfl rfl rfl (Nat.le_trans lb hs) ?_
  walk_at "wgo"
  refine ⟨_, ixL 2 rfl, ?_⟩
  walk_at "wgo"
  refine callK_d c rfl rfl rfl rfl rfl (Nat.le_trans lc hs) ?_
  walk_at "wgo"
  refine ⟨lt_ rfl, lt_ rfl, ?_⟩
  walk_at "wgo"
  refine callK_d (.int (amountIn b)) rfl rfl rfl rfl rfl rfl ?_
  walk_at "wgo"
  refine ifB2 (fun h => ?_) (fun h => ?_)
  · have h1 : ¬ 1 ≤ amountIn b := by
      have h : (!decide (1 ≤ amountIn b)) = true := h
      simpa using h
    walk_at "wgo"
    refine bad (.val (.int (amountIn b))) (.val (.int (amountIn c))) ?_
    rw [tin]
    show (if isNm (.str a) = true ∧ 1 ≤ amountIn b ∧ 0 ≤ amountIn c then _ else _) = _
    rw [if_neg (by rintro ⟨_, z, _⟩; exact h1 z)]
  have h1 : 1 ≤ amountIn b := by
    have h : (!decide (1 ≤ amountIn b)) = false := h
    simpa using h
  walk_at "wgo"
  refine ifB2 (fun h => ?_) (fun h => ?_)
  · have h2 : amountIn c < 0 := of_decide_eq_true h
    walk_at "wgo"
    refine bad (.val (.int (amountIn b))) (.val (.int (amountIn c))) ?_
    rw [tin]
    show (if isNm (.str a) = true ∧ 1 ≤ amountIn b ∧ 0 ≤ amountIn c then _ else _) = _
    rw [if_neg (by rintro ⟨_, _, z⟩; omega)]
  have h2 : 0 ≤ amountIn c := Int.not_lt.mp (of_decide_eq_false h)
  walk_at "wgo"
  refine ⟨_, ixL 0 rfl, ?_⟩
  walk_at "wgo"
  refine makeK_u (⟨a, amountIn b, amountIn c⟩ : Tk) rfl rfl rfl rfl rfl rfl rfl rfl rfl rfl ⟨hn, h1, h2⟩ ?_
  walk_at "wgo"
  refine ⟨rfl, ?_, rfl⟩
  rw [tin]
  show _ = (if isNm (.str a) = true ∧ 1 ≤ amountIn b ∧ 0 ≤ amountIn c then _ else _)
  rw [if_pos ⟨hn, h1, h2⟩]


end SD

namespace SD
open PySem L2 PV
theorem k_takers_in : Kp_takers_in sp_takers_in := by
  intro r
  refine keeps_d fun s hs => ⟨rfl, ?_⟩
  have tin : takersO s = if (Txt.split s (Str.ofString "\n")).length ≤ 8 then (match allSome ((Txt.split s (Str.ofString "\n")).map takerO) with
    | some ts => if (ts.map (·.name)).Nodup then some ts else none
    | none => none) else none := rfl
  obtain ⟨hs, many, hl⟩ := hs
  have many : (Txt.split s (Str.ofString "\n")).length ≤ LIM := many
  have hl : ∀ l ∈ Txt.split s (Str.ofString "\n"), l.length ≤ 1000 := hl
  walk_at "wgo"
  refine ⟨rfl, ⟨by decide +kernel, Nat.le_trans (Nat.add_le_add_right hs 2) (by decide)⟩, ?_⟩
  revert hl tin many
  generalize Txt.split s (Str.ofString "\n") = ls
  intro tin many hl
  walk_at "wgo"
  refine ⟨rfl, rfl, ?_⟩
  walk_at "wgo"
  refine lc_map ls .str (fun l => oD (takerO l)) rfl (chk_one rfl) many (fun l hm ky kn k => ?_) ?_
  · walk_at "wgo"
    refine callK_d l rfl rfl rfl rfl rfl (hl l hm) ?_
    walk_at "wgo"
    rw [takerIn_o]
    exact k
  walk_at "wgo"
  refine ⟨lt_ rfl, ?_⟩
  have len : (((ls.map fun l => oD (takerO l)).length : Nat) : Int) = (ls.length : Nat) := by simp
  have bad : ∀ e2 e3 e4, takersO s = none → (fun fr d e => outK [false] e fun o => fr = false ∧ d = tsD (takersO s) ∧ o = [D.non]) false .non [.val (.str s), .val (.lst (ls.map fun l => oD (takerO l))), e2, e3, e4] := fun _ _ _ e => by rw [e]; exact ⟨rfl, rfl, rfl⟩
  walk_at "wgo"
  rw [len]
  refine ifB2 (fun h => ?_) (fun h => ?_)
  · have h := of_decide_eq_true h
    walk_at "wgo"
    refine bad .un .un .un ?_
    rw [tin, if_neg (by omega)]
  have few : ls.length ≤ 8 := by have := of_decide_eq_false h; omega
  walk_at "wgo"
  refine ⟨rfl, rfl, ?_⟩
  walk_at "wgo"
  refine lc_map ls (fun l => oD (takerO l)) (fun l => .bl (takerO l).isNone) rfl (chk_one rfl) many (fun l hm ky kn k => ?_) ?_
  · walk_at "wgo"
    have e : isNonD (oD (takerO l)) = (takerO l).isNone := by cases takerO l <;> rfl
    rw [e]
    exact k
  walk_at "wgo"
  rw [boolsD_map]
  walk_at "wgo"
  have any : ((ls.map fun l => (takerO l).isNone).any id) = (ls.map takerO).any Option.isNone := by rw [List.any_map, List.any_map]; rfl
  rw [any]
  cases q : allSome (ls.map takerO) with
  | none =>
    rw [allSome_none q]
    walk_at "wgo"
    refine bad .un .un .un ?_
    rw [tin, if_pos few, q]
  | some ts =>
    have em := allSome_map q
    have e2 : (ls.map fun l => oD (takerO l)) = ts.map tkD := by
      have : (ls.map fun l => oD (takerO l)) = (ls.map takerO).map oD := by rw [List.map_map]; rfl
      rw [this, em, List.map_map]; rfl
    have nn : (ls.map takerO).any Option.isNone = false := by rw [em, List.any_map]; simp
    have few2 : ts.length ≤ 8 := by have := congrArg List.length em; simp at this; omega
    rw [nn]
    walk_at "wgo"
    rw [e2]
    walk_at "wgo"
    refine ⟨rfl, rfl, ?_⟩
    walk_at "wgo"
    refine lc_map ts tkD (fun t => .str t.name) rfl (chk_one rfl) (Nat.le_trans few2 (by decide)) (fun t hm ky kn k => ?_) ?_
    · walk_at "wgo"
      refine ⟨rfl, _, rfl, ?_⟩
      walk_at "wgo"
      exact k
    walk_at "wgo"
    refine ⟨lt_ rfl, ?_⟩
    walk_at "wgo"
    rw [strsD_map]
    walk_at "wgo"
    refine ⟨by simp; omega, ?_⟩
    walk_at "wgo"
    refine ifB2 (fun h => ?_) (fun h => ?_)
    · have h : ((dst (ts.map (·.name))).length : Int) = ((ts.map fun t => D.str t.name).length : Nat) := of_decide_eq_true h
      have nd : (ts.map (·.name)).Nodup := (dst_nodup _).mp (by simp at h; simp; omega)
      walk_at "wgo"
      refine ⟨rfl, ?_, rfl⟩
      rw [tin, if_pos few, q]
      show _ = tsD (if (ts.map (·.name)).Nodup then some ts else none)
      rw [if_pos nd]; rfl
    · have h : ¬ ((dst (ts.map (·.name))).length : Int) = ((ts.map fun t => D.str t.name).length : Nat) := of_decide_eq_false h
      have nd : ¬ (ts.map (·.name)).Nodup := fun z => h (by have := (dst_nodup _).mpr z; simp at this; simp; omega)
      walk_at "wgo"
      refine ⟨rfl, ?_, rfl⟩
      rw [tin, if_pos few, q]
      show _ = tsD (if (ts.map (·.name)).Nodup then some ts else none)
      rw [if_neg nd]; rfl

theorem k_check_takers : Kp_check_takers sp_check_takers := by
  intro r
  refine keeps_d fun ts ht => ⟨rfl, ?_⟩
  have len : (((ts.map tkD).length : Nat) : Int) = (ts.length : Nat) := by simp
  have l1 := ht.one
  have l8 := ht.few
  walk_at "wgo"
  rw [len]
  refine ifB2 (fun h => ?_) (fun h => absurd (of_decide_eq_false h) (by omega))
  walk_at "wgo"
  have e8 : decide (((ts.length : Nat) : Int) ≤ 8) = true := decide_eq_true (by omega)
  rw [e8]
  walk_at "wgo"
  refine ⟨Nat.zero_le _, rfl, ?_⟩
  walk_at "wgo"
  refine ⟨lt_ rfl, ?_⟩
  walk_at "wgo"
  refine ⟨⟨rfl, trivial⟩, ?_⟩
  refine for_ix (fun i e => ∃ y z, e = [.val (.tup (ts.map tkD)), .own (.lst ((ts.take i).map fun t => .str t.name)), y, z]) ⟨.un, .un, rfl⟩ (fun i d e hd p k kk => ?_) (fun e p => ?_)
  · obtain ⟨y, z, rfl⟩ := p
    obtain ⟨dd, h1, rfl⟩ := enumD_get hd
    rw [List.getElem?_map] at h1
    cases q : ts[i]? with
    | none => rw [q] at h1; cases h1
    | some t =>
      rw [q] at h1
      cases h1
      have tm := List.mem_of_getElem? q
      walk_at "wgo"
      refine ⟨rfl, _, rfl, ?_⟩
      walk_at "wgo"
      refine ⟨fun y hy => ?_, rfl, ?_⟩
      · obtain ⟨u, _, rfl⟩ := List.mem_map.mp hy
        rfl
      have e1 : inD (.str t.name) ((ts.take i).map fun t => .str t.name) = false := by
        have : ((ts.take i).map fun t => D.str t.name) = ((ts.take i).map (·.name)).map .str := by rw [List.map_map]; rfl
        rw [this, inD_str]
        refine decide_eq_false fun hm => ?_
        rw [List.map_take] at hm
        obtain ⟨j, hj⟩ := List.mem_iff_getElem?.mp hm
        have hji : j < i := by have := (List.getElem?_eq_some_iff.mp hj).1; simp at this; omega
        rw [List.getElem?_take_of_lt hji] at hj
        have h2 : (ts.map (·.name))[i]? = some t.name := by rw [List.getElem?_map, q]; rfl
        have := (List.getElem?_inj (List.getElem?_eq_some_iff.mp hj).1 ht.nd).mp (hj.trans h2.symm)
        omega
      walk_at "wgo"
      rw [e1]
      walk_at "wgo"
      refine ⟨trivial, rfl, _, rfl, ?_⟩
      walk_at "wgo"
      refine ⟨?_, kk _ ⟨.val (.int ((0 + i : Nat) : Int)), .val (tkD t), ?_⟩⟩
      · have e0 : LIM = 16777216 := rfl
        have := (List.length_take_le' i ts)
        rw [List.length_map]; omega
      · rw [List.take_add_one, q, List.map_append]
        rfl
  · obtain ⟨y, z, rfl⟩ := p
    walk_at "wgo"
    exact ⟨rfl, rfl, rfl⟩
theorem k_common_divisor : Kp_common_divisor sp_common_divisor := by
  intro r
  refine keeps_d fun p _ => ⟨rfl, ?_⟩
  obtain ⟨a0, b0⟩ := p
  walk_at "wgo"
  refine ⟨fun m e => ∃ a b : Nat, e = [.val (.int a), .val (.int b)] ∧ m = b ∧ Nat.gcd a b = Nat.gcd a0 b0, ⟨b0, a0, b0, rfl, rfl, rfl⟩, ?_⟩
  rintro m e ⟨a, b, rfl, em, hg⟩
  walk_at "wgo"
  refine ifB2 (fun h => ?_) (fun h => ?_)
  · have h : (!decide (((b : Nat) : Int) = 0)) = true := h
    have hb : b ≠ 0 := by
      intro z; subst z; simp at h
    walk_at "wgo"
    refine ⟨by omega, ?_⟩
    walk_at "wgo"
    refine ⟨lt_ rfl, lt_ rfl, ?_⟩
    refine ⟨a % b, by rw [em]; exact Nat.mod_lt _ (Nat.pos_of_ne_zero hb), b, a % b, ?_, rfl, ?_⟩
    · show [Sl.val (.int (b : Nat)), Sl.val (.int (((a : Nat) : Int) % ((b : Nat) : Int)))] = _
      rw [← Int.natCast_emod]
    · rw [← hg, Nat.gcd_comm b, ← Nat.gcd_rec, Nat.gcd_comm]
  · have h : (!decide (((b : Nat) : Int) = 0)) = false := h
    have hb : b = 0 := by
      have : (decide (((b : Nat) : Int) = 0)) = true := by simpa using h
      have := of_decide_eq_true this
      omega
    subst hb
    rw [Nat.gcd_zero_right] at hg
    walk_at "wgo"
    exact ⟨rfl, by rw [hg], rfl⟩

theorem k_common_multiple : Kp_common_multiple sp_common_multiple := by
  intro r
  refine keeps_d fun ns hn => ⟨rfl, ?_⟩
  obtain ⟨h8, hb⟩ := hn
  walk_at "wgo"
  refine ⟨lt_ rfl, ?_⟩
  walk_at "wgo"
  refine ⟨⟨rfl, trivial⟩, ?_⟩
  refine for_ix (fun i e => ∃ y, e = [.val (.lst (ns.map fun n => .int (n : Nat))), .val (.int (lcmL (ns.take i) : Nat)), y]) ⟨.un, rfl⟩ (fun i d e hd p k kk => ?_) (fun e p => ?_)
  · obtain ⟨y, rfl⟩ := p
    rw [List.getElem?_map] at hd
    cases q : ns[i]? with
    | none => rw [q] at hd; cases hd
    | some n =>
      rw [q] at hd
      cases hd
      have nm := List.mem_of_getElem? q
      obtain ⟨n1, n2⟩ := hb n nm
      have bd := lcmL_bd (ns.take i) 1000 fun n hn => hb n (List.mem_of_mem_take hn)
      have ln : (ns.take i).length ≤ 8 := Nat.le_trans (List.length_take_le' i ns) h8
      have big : lcmL (ns.take i) < 2 ^ (8000 + 1) := Nat.lt_of_lt_of_le bd.2 (Nat.pow_le_pow_right (by decide) (by omega))
      have gp : 0 < Nat.gcd (lcmL (ns.take i)) n := Nat.gcd_pos_of_pos_right _ n1
      have gle : Nat.gcd (lcmL (ns.take i)) n ≤ n := Nat.gcd_le_right _ n1
      walk_at "wgo"
      refine callK_d ((lcmL (ns.take i), n) : Nat × Nat) rfl rfl rfl rfl rfl trivial ?_
      walk_at "wgo"
      refine ⟨⟨by show (0 : Int) < ((Nat.gcd (lcmL (ns.take i)) n : Nat) : Int); omega, ?_⟩, ?_⟩
      · have : Nat.gcd (lcmL (ns.take i)) n < 2 ^ (999 + 1) := Nat.lt_of_le_of_lt gle n2
        have := log2_nat this
        show ((Nat.gcd (lcmL (ns.take i)) n : Nat) : Int).natAbs.log2 < 9000
        omega
      walk_at "wgo"
      have eq : ((lcmL (ns.take i) : Nat) : Int) / ((Nat.gcd (lcmL (ns.take i)) n : Nat) : Int) = ((lcmL (ns.take i) / Nat.gcd (lcmL (ns.take i)) n : Nat) : Int) := by rw [Int.natCast_ediv]
      refine ⟨?_, lt_ rfl, kk _ ⟨.val (.int (n : Nat)), ?_⟩⟩
      · show ((((lcmL (ns.take i) : Nat) : Int) / ((Nat.gcd (lcmL (ns.take i)) n : Nat) : Int)).natAbs.log2 + ((n : Nat) : Int).natAbs.log2) < 100000000
        rw [eq]
        have a1 := log2_nat (Nat.lt_of_le_of_lt (Nat.div_le_self _ (Nat.gcd (lcmL (ns.take i)) n)) big)
        have a2 := log2_nat (show n < 2 ^ (999 + 1) from n2)
        omega
      · rw [List.take_add_one, q]
        show [_, Sl.val (.int (((lcmL (ns.take i) : Nat) : Int) / ((Nat.gcd (lcmL (ns.take i)) n : Nat) : Int) * ((n : Nat) : Int))), _] = [_, Sl.val (.int ((lcmL (ns.take i ++ [n]) : Nat) : Int)), _]
        rw [eq, lcmL_snoc, ← div_mul_lcm, Int.natCast_mul]
  · obtain ⟨y, rfl⟩ := p
    rw [List.length_map, List.take_length]
    walk_at "wgo"
    exact ⟨rfl, rfl, rfl⟩
theorem k_Taker_turns_below : Kp_Taker_turns_below sp_Taker_turns_below := by
  intro r
  refine keeps_d fun p hp => ⟨rfl, ?_⟩
  obtain ⟨t, m⟩ := p
  obtain ⟨h1, h2⟩ := hp
  have h1 : 1 ≤ t.stride := h1
  have h2 : t.stride < 2 ^ 1000 := h2
  walk_at "wgo"
  refine ⟨rfl, _, rfl, ?_⟩
  walk_at "wgo"
  refine ifB2 (fun h => ?_) (fun h => ?_)
  · walk_at "wgo"
    refine ⟨rfl, ?_, rfl⟩
    show D.int 0 = D.int (if m ≤ t.begin then 0 else _)
    rw [if_pos (of_decide_eq_true h)]
  · walk_at "wgo"
    refine ⟨rfl, _, rfl, ?_⟩
    walk_at "wgo"
    refine ⟨rfl, _, rfl, ?_⟩
    walk_at "wgo"
    refine ⟨rfl, _, rfl, ?_⟩
    walk_at "wgo"
    refine ⟨⟨by omega, ?_⟩, ?_⟩
    · have := log2_int (k := 999) (by omega) h2
      show t.stride.natAbs.log2 < 9000
      omega
    walk_at "wgo"
    refine ⟨rfl, ?_, rfl⟩
    show D.int _ = D.int (if m ≤ t.begin then 0 else _)
    rw [if_neg (of_decide_eq_false h)]
theorem k_Deal_all_below : Kp_Deal_all_below sp_Deal_all_below := by
  intro r
  refine keeps_d fun p hp => ⟨rfl, ?_⟩
  obtain ⟨⟨ts, rest⟩, m⟩ := p
  have hp : TsOk ts := hp
  walk_at "wgo"
  refine ⟨rfl, _, rfl, ?_⟩
  walk_at "wgo"
  refine ⟨rfl, rfl, ?_⟩
  walk_at "wgo"
  refine lc_map ts tkD (fun t => .int (tbl t m)) rfl (chk_one rfl) (Nat.le_trans hp.few (by decide)) (fun t hm ky kn k => ?_) ?_
  · walk_at "wgo"
    refine ⟨rfl, ?_⟩
    walk_at "wgo"
    refine callK_d ((t, m) : Tk × Int) rfl rfl rfl rfl rfl ⟨(hp.ok t hm).st, hp.big t hm⟩ ?_
    walk_at "wgo"
    exact k
  walk_at "wgo"
  rw [intsD_map]
  walk_at "wgo"
  exact ⟨rfl, rfl, rfl⟩

theorem k_Deal_init : Kp_Deal_init sp_Deal_init := by
  intro r
  refine keeps_u fun ts ht => ⟨rfl, ?_⟩
  have l8 : ts.length ≤ LIM := Nat.le_trans ht.few (by decide)
  walk_at "wgo"
  refine callK_d ts rfl rfl rfl rfl rfl ht ?_
  walk_at "wgo"
  refine ⟨rfl, Nat.zero_le _, ?_⟩
  walk_at "wgo"
  refine ⟨rfl, rfl, ?_⟩
  walk_at "wgo"
  refine lc_map ts tkD (fun t => .str t.name) rfl (chk_one rfl) l8 (fun t hm ky kn k => ?_) ?_
  · walk_at "wgo"; refine ⟨rfl, _, rfl, ?_⟩; walk_at "wgo"; exact k
  walk_at "wgo"
  refine ⟨rfl, lt_ rfl, ?_⟩
  walk_at "wgo"
  refine ⟨rfl, rfl, ?_⟩
  walk_at "wgo"
  refine lc_map ts tkD (fun t => .int t.stride) rfl (chk_one rfl) l8 (fun t hm ky kn k => ?_) ?_
  · walk_at "wgo"; refine ⟨rfl, _, rfl, ?_⟩; walk_at "wgo"; exact k
  walk_at "wgo"
  refine ⟨lt_ rfl, ?_⟩
  walk_at "wgo"
  have e1 : (ts.map fun t => D.int t.stride) = (ts.map fun t => t.stride.toNat).map fun n => .int (n : Nat) := by
    rw [List.map_map]
    refine List.map_congr_left fun t ht' => ?_
    have := (ht.ok t ht').st
    show D.int t.stride = D.int ((t.stride.toNat : Nat) : Int)
    rw [Int.toNat_of_nonneg (by omega)]
  refine callK_d (ts.map fun t => t.stride.toNat) rfl rfl (by rw [← e1]; rfl) rfl rfl ⟨by rw [List.length_map]; exact ht.few, fun n hn => ?_⟩ ?_
  · obtain ⟨t, tm, rfl⟩ := List.mem_map.mp hn
    have h1 := (ht.ok t tm).st
    have h2 := ht.big t tm
    refine ⟨by omega, ?_⟩
    have : ((t.stride.toNat : Nat) : Int) < ((2 ^ 1000 : Nat) : Int) := by rw [Int.toNat_of_nonneg (by omega), Int.natCast_pow]; exact h2
    exact_mod_cast this
  walk_at "wgo"
  refine ⟨lt_ rfl, ?_⟩
  walk_at "wgo"
  refine ⟨rfl, rfl, ?_⟩
  walk_at "wgo"
  refine lc_map ts (fun t => .int t.stride) (fun t => .int (wholeT ts / t.stride)) rfl (chk_one rfl) l8 (fun t hm ky kn k => ?_) ?_
  · walk_at "wgo"
    refine ⟨⟨by have := (ht.ok t hm).st; omega, ?_⟩, ?_⟩
    · have := log2_int (k := 999) (by have := (ht.ok t hm).st; omega) (ht.big t hm)
      show t.stride.natAbs.log2 < 9000
      omega
    walk_at "wgo"
    exact k
  walk_at "wgo"
  rw [intsD_map]
  walk_at "wgo"
  refine ⟨rfl, lt_ rfl, ?_⟩
  walk_at "wgo"
  refine ⟨rfl, ?_⟩
  walk_at "wgo"
  refine ⟨rfl, rfl, ?_⟩
  walk_at "wgo"
  refine lc_map ts tkD (fun t => .int t.begin) rfl (chk_one rfl) l8 (fun t hm ky kn k => ?_) ?_
  · walk_at "wgo"; refine ⟨rfl, _, rfl, ?_⟩; walk_at "wgo"; exact k
  walk_at "wgo"
  rw [intsD_map]
  walk_at "wgo"
  refine ⟨by rw [List.length_map]; exact ht.one, fun m h1 h2 => ?_⟩
  have em := maxB_of h1 h2
  subst em
  walk_at "wgo"
  refine callK_u (((ts, [.tpn (ts.map fun t => .str t.name), .int (rndT ts)]), maxB ts) : (List Tk × List D) × Int) rfl rfl rfl rfl rfl (fun _ => ⟨rfl, rfl, rfl⟩) ht ?_
  walk_at "wgo"
  refine ⟨rfl, lt_ rfl, ?_⟩
  walk_at "wgo"
  exact ⟨rfl, rfl, rfl⟩
theorem k_Deal_read : Kp_Deal_read sp_Deal_read := by
  intro r
  refine keeps_u fun p hp => ⟨rfl, ?_⟩
  obtain ⟨s, ts⟩ := p
  obtain ⟨h1, h2, h3⟩ := hp
  have h1 : takersO s = some ts := h1
  have h2 : TsOk ts := h2
  walk_at "wgo"
  refine callK_d s rfl rfl rfl rfl rfl h3 ?_
  rw [h1]
  walk_at "wgo"
  refine ⟨lt_ rfl, ?_⟩
  walk_at "wgo"
  refine ⟨by rw [List.length_map]; exact Nat.le_trans h2.few (by decide), ?_⟩
  refine makeK_u ts rfl rfl rfl rfl rfl rfl rfl rfl rfl rfl h2 ?_
  walk_at "wgo"
  exact ⟨rfl, rfl, rfl⟩


end SD

namespace SD
open PySem L2 PV

end SD

namespace SD
open PySem L2 PV

end SD

namespace SD
open PySem L2 PV

end SD

namespace SD
open PySem L2 PV

end SD

namespace SD
open PySem L2 PV
theorem erase_map {α β : Type} (f : α → β) : ∀ (l : List α) (n : Nat), (l.eraseIdx n).map f = (l.map f).eraseIdx n
  | [], _ => rfl
  | _ :: _, 0 => rfl
  | a :: l, n + 1 => congrArg (f a :: ·) (erase_map f l n)
theorem k_law_take : Kp_law_take sp_law_take := by
  intro r
  refine keeps_n fun p hp => ⟨rfl, ?_⟩
  obtain ⟨w, span⟩ := p
  obtain ⟨hw, h1, hb⟩ : HwOk w ∧ 1 ≤ span ∧ Bd 8000 span := hp
  have sb : Bd 33 w.st := Bd.of_lt hw.s0 (Int.lt_of_lt_of_le hw.sb (by decide))
  have d0 := hw.dp
  have s0 := hw.s0
  walk_at "pv"
  refine ifB2 (fun h => ?_) (fun h => ?_)
  · replace h := of_decide_eq_true h
    walk_at "pv"
    refine ⟨(w.deep % span, ⟨w.deep / span, w.st⟩), ⟨Int.emod_nonneg _ (by omega), Int.emod_lt_of_pos _ (by omega), ?_⟩, rfl, rfl, rfl⟩
    exact ⟨Int.ediv_nonneg d0 (by omega), hw.s0, hw.sb⟩
  · walk_at "pv"
    generalize hu : (w.st * 48271 + w.st / 31337 + 12345) % 4294967291 = u
    have u0 : 0 ≤ u := by rw [← hu]; exact Int.emod_nonneg _ (by decide)
    have u1 : u < 4294967291 := by rw [← hu]; exact Int.emod_lt_of_pos _ (by decide)
    walk_at "pv"
    refine ⟨(u / 4099 % span, ⟨w.deep, u⟩), ⟨?_, ?_, d0, u0, u1⟩, rfl, rfl, rfl⟩
    · exact Int.emod_nonneg _ (by omega)
    · exact Int.emod_lt_of_pos _ (by omega)
theorem k_law_pull : Kp_law_pull sp_law_pull := by
  intro r
  refine keeps_n fun p hp => ⟨rfl, ?_⟩
  obtain ⟨w, xs⟩ := p
  obtain ⟨hw, h1, h2⟩ := hp
  replace hw : HwOk w := hw
  replace h1 : 1 ≤ xs.length := h1
  replace h2 : xs.length ≤ 1000 := h2
  walk_at "pv"
  refine callK_n ((w, (xs.length : Int)) : Hw × Int) rfl rfl rfl rfl (fun _ => rfl) (fun z => (by cases z)) ⟨hw, by show (1 : Int) ≤ xs.length; omega, Bd.nat (Nat.lt_of_le_of_lt h2 (by decide))⟩ ?_
  rintro ⟨v, w'⟩ ⟨v0, v1, hw'⟩
  replace v0 : 0 ≤ v := v0
  replace v1 : v < xs.length := v1
  obtain ⟨j, rfl⟩ := Int.eq_ofNat_of_zero_le v0
  have hj : j < xs.length := by omega
  walk_at "pv"
  refine ⟨_, ixL j (List.getElem?_eq_getElem hj), ?_⟩
  walk_at "pv"
  exact ⟨(xs[j], w'), ⟨List.getElem_mem hj, hw'⟩, rfl, rfl, rfl⟩
theorem k_law_hatful : Kp_law_hatful sp_law_hatful := by
  intro r
  refine keeps_n fun p hp => ⟨rfl, ?_⟩
  obtain ⟨ns, k⟩ := p
  obtain ⟨hl, hk, hb⟩ : ns.length ≤ 63 ∧ k ≤ 63 ∧ ∀ z ∈ ns, Bd 1048577 z := hp
  have kb : Bd 8 ((k : Nat) : Int) := Bd.nat (Nat.lt_of_le_of_lt hk (by decide))
  have e18 : (10 : Int) ^ 18 = 1000000000000000000 := by decide
  walk_at "pv"
  refine for_map (ns.take 9) .int (cut_take ns 9) (fun pre e => ∃ c y3, e = [.val (.rol (ns.map .int)), .val (.int (k : Nat)), .val (.int c), y3, .un] ∧ 0 ≤ c ∧ c < 4294967291) ⟨_, _, rfl, by omega, by omega⟩ (fun pre x post e hx hP k2 kk => ?_) (fun e hP => ?_)
  · obtain ⟨c, y3, rfl, c0, c1⟩ := hP
    have cb : Bd 33 c := Bd.of_lt c0 (Int.lt_of_lt_of_le c1 (by decide))
    have xb := hb x (List.mem_of_mem_take (by rw [hx]; simp))
    walk_at "pv"
    exact kk _ ⟨_, _, rfl, Int.emod_nonneg _ (by decide), Int.emod_lt_of_pos _ (by decide)⟩
  · obtain ⟨c, y3, rfl, c0, c1⟩ := hP
    have fin : ∀ d o : Int, 0 ≤ d → HwOk ⟨d, (c + o) % 4294967291⟩ := fun d o h => ⟨h, Int.emod_nonneg _ (by decide), Int.emod_lt_of_pos _ (by decide)⟩
    have lb : (ns.map D.int).length = ns.length := List.length_map _
    walk_at "pv"
    refine ifB2 (fun h => ?_) (fun h => ?_)
    · replace h := of_decide_eq_true h
      rw [lb] at h
      have lk : k < ns.length := by omega
      walk_at "wgo"
      refine ⟨.int ns[k], ixR k (by rw [List.getElem?_map, List.getElem?_eq_getElem lk]; rfl), ?_⟩
      have ob := hb ns[k] (List.getElem_mem lk)
      generalize ns[k] = o at *
      walk_at "pv"
      refine ifB2 (fun h1 => ?_) (fun h1 => ?_)
      · walk_at "pv"
        exact ⟨⟨if o < 0 then -o else o, (c + o) % 4294967291⟩, fin _ _ (by split <;> omega), rfl, rfl, rfl⟩
      · walk_at "pv"
        exact ⟨⟨0, (c + o) % 4294967291⟩, fin _ _ (by decide), rfl, rfl, rfl⟩
    · walk_at "pv"
      refine ifB2 (fun h1 => ?_) (fun h1 => ?_)
      · walk_at "pv"
        exact ⟨⟨if 7 * (k : Int) < 0 then -(7 * (k : Int)) else 7 * (k : Int), (c + 7 * (k : Int)) % 4294967291⟩, fin _ _ (by split <;> omega), rfl, rfl, rfl⟩
      · walk_at "pv"
        exact ⟨⟨0, (c + 7 * (k : Int)) % 4294967291⟩, fin _ _ (by decide), rfl, rfl, rfl⟩
theorem k_law_fresh_labels : Kp_law_fresh_labels sp_law_fresh_labels := by
  intro r
  refine keeps_n fun p hp => ⟨rfl, ?_⟩
  obtain ⟨w, n⟩ := p
  obtain ⟨hw, hn⟩ : HwOk w ∧ n ≤ 8 := hp
  have e26 : (Str.ofString "qwertyuiopasdfghjklzxcvbnm").length ≤ LIM := hds_lt
  walk_at "pv"
  refine lc_ix (fun i acc e => ∃ (ys : List Str) (hs : List Nat) (w' : Hw) (y4 : Sl), LbOk i ys hs ∧ HwOk w' ∧ (y4 = .un ∨ ∃ d, y4 = .val d) ∧ acc = ys.map .str ∧ e = [.own (hwD w'), .val (.int (n : Nat)), .own (sgD hs), .val (.lst [.str "", .str "", .str "a", .str "zz", .str "abcdefghi"]), y4]) ⟨[], _, w, .un, LbOk.init, hw, .inl rfl, rfl, rfl⟩ (fun i acc e z => chk_nil) (by simp [rngD]; exact Nat.le_trans hn (by decide)) (fun i d acc e hd z ky kn k1 k2 => ?_) fun acc e z => ?_
  · obtain ⟨ys, hs, w', y4, hL, hw', hy, rfl, rfl⟩ := z
    have lh := hL.len
    have hi : i < n := by
      have := (List.getElem?_eq_some_iff.mp hd).1
      simpa [rngD] using this
    have ml : (hs.map fun c => D.str ⟨#[c]⟩).length = hs.length := List.length_map _
    unfold sgD
    walk_at "pv"
    refine tk_ hw' (by rw [ml]; omega) (Bd.nat (Nat.lt_of_lt_of_le (by rw [ml]; omega : _ < 2 ^ 8) (Nat.pow_le_pow_right (by decide) (by decide)))) rfl rfl rfl rfl rfl rfl fun q w1 hq hw1 => ?_
    rw [ml] at hq
    have hq : q < hs.length := by omega
    have hqc := List.getElem?_eq_getElem hq
    generalize hs[q] = c at hqc
    walk_at "pv"
    refine ⟨.str ⟨#[c]⟩, ?_, ?_⟩
    · rw [Int.toNat_natCast, List.getElem?_map, hqc]; rfl
    rw [Int.toNat_natCast]
    walk_at "pv"
    refine pull_ [.str "", .str "", .str "a", .str "zz", .str "abcdefghi"] hw1 (by decide) (by decide) rfl rfl rfl rfl rfl rfl fun d w2 hd hw2 => ?_
    obtain ⟨t, rfl, t9, t3, tl⟩ := tail_ok (d := d) (by
      rcases mem5 hd with h | h | h | h | h
      · exact .inl h
      · exact .inl h
      · exact .inr (.inl h)
      · exact .inr (.inr (.inl h))
      · exact .inr (.inr (.inr h)))
    walk_at "wgo"
    refine ⟨Nat.le_trans (by show 1 + t.length ≤ 10; omega) (by decide), ?_⟩
    walk_at "pv"
    refine k1 _ _ ⟨_, _, w2, .un, hL.more hqc t9 t3 tl, hw2, .inl rfl, ?_, ?_⟩
    · rw [List.map_append]; rfl
    · unfold sgD
      rw [erase_map]
      rfl
  · obtain ⟨ys, hs, w', y4, hL, hw', hy, rfl, rfl⟩ := z
    have e1 : (rngD 0 ((n : Nat) : Int).toNat).length = n := by simp [rngD]
    rw [e1] at hL
    walk_at "pv"
    exact ⟨(ys, w'), ⟨⟨hL.ly, hL.yn, hL.nm, hL.l4⟩, hw'⟩, rfl, rfl, rfl⟩
theorem k_law_drawn_crew : Kp_law_drawn_crew sp_law_drawn_crew := by
  intro r
  refine keeps_n fun p hp => ⟨rfl, ?_⟩
  obtain ⟨w, m⟩ := p
  obtain ⟨hw, h1, h7⟩ : HwOk w ∧ 1 ≤ m ∧ m ≤ 8 := hp
  walk_at "pv"
  refine pull_ [.int 1, .int 1, .int 2, .int 6] hw (by decide) (by decide) rfl rfl rfl rfl rfl rfl fun d w1 hd hw1 => ?_
  obtain ⟨sp, rfl, hsp⟩ : ∃ f : Int, d = .int f ∧ (f = 1 ∨ f = 2 ∨ f = 6) := by
    rcases mem4 hd with rfl | rfl | rfl | rfl <;> exact ⟨_, rfl, by decide⟩
  have s1 : 1 ≤ sp := by omega
  have s6 : sp ≤ 6 := by omega
  walk_at "pv"
  refine tk_ hw1 (by omega) (Bd.nat (Nat.lt_of_le_of_lt h7 (by decide +kernel))) rfl rfl rfl rfl rfl rfl fun v w2 hv hw2 => ?_
  walk_at "pv"
  rw [show (1 : Int) + (v : Nat) = ((1 + v : Nat) : Int) by omega]
  refine callK_n ((w2, 1 + v) : Hw × Nat) rfl rfl rfl rfl (fun _ => rfl) (fun z => (by cases z)) ⟨hw2, by show 1 + v ≤ 8; omega⟩ ?_
  rintro ⟨ys, w3⟩ ⟨⟨yl, yn, ynm, yn4⟩, hw3⟩
  replace hw3 : HwOk w3 := hw3
  replace yl : ys.length = 1 + v := yl
  replace yn : ys.Nodup := yn
  walk_at "pv"
  refine for_map ys .str rfl (fun pre e => ∃ (ts : List Tk) (w' : Hw) (y4 : Sl), HwOk w' ∧ ts.map (·.name) = pre ∧ (∀ t ∈ ts, ((1 ≤ t.stride ∧ t.stride ≤ 36) ∧ 0 ≤ t.begin ∧ t.begin ≤ 13) ∧ t.stride ∣ 360) ∧ e = [.own (hwD w'), .val (.int (m : Nat)), .val (.int sp), .own (.lst (ts.map rowD)), y4]) ⟨[], w3, _, hw3, rfl, fun t h => (by cases h), rfl⟩ (fun pre x post e hx hP k kk => ?_) (fun e hP => ?_)
  · obtain ⟨ts, w', y4, hw', hpre, hts, rfl⟩ := hP
    have tl : ts.length ≤ 8 := by
      have := congrArg List.length hpre
      have := congrArg List.length hx
      simp at *
      omega
    walk_at "pv"
    refine tk_ hw' (by decide) ((Bd.lit rfl : Bd 64 6).mono (by decide)) rfl rfl rfl rfl rfl rfl fun a w4 ha hw4 => ?_
    have sb : Bd 8 sp := Bd.of_lt (by omega) (Int.lt_of_le_of_lt s6 (by decide))
    have ab : Bd 8 (1 + (a : Nat)) := Bd.of_lt (by omega) (Int.lt_of_lt_of_le (by omega : (1 + (a : Nat) : Int) < 8) (by decide))
    walk_at "pv"
    refine tk_ hw4 (by decide) ((Bd.lit rfl : Bd 64 3).mono (by decide)) rfl rfl rfl rfl rfl rfl fun q w5 hq hw5 => ?_
    walk_at "wgo"
    have h14 : ∃ z : Int, [D.int 1, D.int 4, D.int 14][q]? = some (.int z) ∧ 1 ≤ z ∧ z ≤ 14 := by
      have : q = 0 ∨ q = 1 ∨ q = 2 := by omega
      rcases this with rfl | rfl | rfl <;> exact ⟨_, rfl, by decide, by decide⟩
    obtain ⟨z, hz, z1, z14⟩ := h14
    refine ⟨.int z, ixL q hz, ?_⟩
    walk_at "pv"
    refine tk_ hw5 (by omega) (Bd.of_lt (by omega) (Int.lt_of_le_of_lt z14 (by decide +kernel))) rfl rfl rfl rfl rfl rfl fun b w6 hb hw6 => ?_
    walk_at "pv"
    refine ⟨by rw [List.length_map]; exact Nat.lt_of_le_of_lt tl (by decide), ?_⟩
    walk_at "pv"
    refine kk _ ⟨ts ++ [⟨x, sp * (1 + (a : Nat)), (b : Nat)⟩], w6, _, hw6, by rw [List.map_append, hpre]; rfl, fun t ht => ?_, by rw [List.map_append]; rfl⟩
    rcases List.mem_append.mp ht with ht | ht
    · exact hts t ht
    · rw [List.mem_singleton.mp ht]
      have p1 : 1 * 1 ≤ sp * (1 + (a : Nat)) := Int.mul_le_mul s1 (by omega) (by decide) (by omega)
      have p2 : sp * (1 + (a : Nat)) ≤ 6 * 6 := Int.mul_le_mul s6 (by omega) (by omega) (by decide)
      refine ⟨⟨⟨by show 1 ≤ sp * (1 + (a : Nat)); omega, by show sp * (1 + (a : Nat)) ≤ 36; omega⟩, by show (0 : Int) ≤ (b : Nat); omega, by show ((b : Nat) : Int) ≤ 13; omega⟩, ?_⟩
      show sp * (1 + (a : Nat)) ∣ 360
      have ha6 : a = 0 ∨ a = 1 ∨ a = 2 ∨ a = 3 ∨ a = 4 ∨ a = 5 := by omega
      rcases hsp with rfl | rfl | rfl <;> rcases ha6 with rfl | rfl | rfl | rfl | rfl | rfl <;> decide
  · obtain ⟨ts, w', y4, hw', hpre, hts, rfl⟩ := hP
    have tl : ts.length = 1 + v := by rw [← yl, ← hpre, List.length_map]
    walk_at "pv"
    have nmOf : ∀ t ∈ ts, t.name ∈ ys := fun t ht => by rw [← hpre]; exact List.mem_map.mpr ⟨t, ht, rfl⟩
    have big : (36 : Int) < 2 ^ 1000 := by decide +kernel
    refine ⟨(ts, w'), ⟨⟨⟨by show 1 ≤ ts.length; omega, by show ts.length ≤ 8; omega, fun t ht => ⟨ynm _ (nmOf t ht), (hts t ht).1.1.1, (hts t ht).1.2.1⟩, by rw [hpre]; exact yn, fun t ht => ?_⟩, by show ts.length ≤ m; omega, fun t ht => (hts t ht).1.1.2, fun t ht => (hts t ht).1.2.2, fun t ht => yn4 _ (nmOf t ht), fun t ht => (hts t ht).2⟩, hw'⟩, rfl, rfl, rfl⟩
    have := (hts t ht).1.1.2
    omega

end SD

namespace SD
open PySem L2 PV
theorem k_law_dealt : Kp_law_dealt sp_law_dealt := by
  intro r
  refine keeps_u fun p hp => ⟨rfl, ?_⟩
  obtain ⟨ts, ws⟩ := p
  obtain ⟨ht, hw, hl⟩ : TsOk ts ∧ IsWord ts ws ∧ ws.length ≤ 1000000 := hp
  have l8 : ts.length ≤ LIM := Nat.le_trans ht.few (by decide)
  walk_at "pv"
  refine lc_map ts rowD (fun t => .int t.begin) rfl (chk_one rfl) l8 (fun t hm ky kn k => ?_) ?_
  · walk_at "pv"; exact k
  have e0 : (ts.map fun t => D.int t.begin) = (List.range ts.length).map fun q => D.int (mkW ts ws 0 q) := by
    rw [tks_range]
    refine List.map_congr_left fun q _ => ?_
    show D.int _ = D.int (_ + (((ws.take 0).count q : Nat) : Int) * _)
    simp
  rw [e0]
  walk_at "pv"
  refine for_ix (fun i e => ∃ y2 y5 : Sl, e = [.val (.lst (ts.map rowD)), .val (.int (ws.length : Nat)), y2, .own (.lst ((List.range ts.length).map fun q => .int (mkW ts ws i q))), .own (wD (ws.take i)), y5, .un, .un]) ⟨_, _, rfl⟩ (fun i d e hd hP k kk => ?_) (fun e hP => ?_)
  · obtain ⟨y2, y5, rfl⟩ := hP
    have li : i < ws.length := by
      have := (List.getElem?_eq_some_iff.mp hd).1
      simpa [rngD] using this
    have hd : d = .int (0 + (i : Nat)) := by
      have : (rngD 0 ((ws.length : Nat) : Int).toNat)[i]? = some (D.int (0 + (i : Nat))) := by
        unfold rngD
        rw [List.getElem?_map, List.getElem?_range (by simpa using li)]; rfl
      rw [this] at hd
      exact (Option.some.inj hd).symm
    subst hd
    have hp := List.getElem?_eq_getElem li
    generalize ws[i] = p at hp
    obtain ⟨pl, _, w1, w2⟩ := word_at ht hw hp
    walk_at "pv"
    refine lc_map (List.range ts.length) (fun q => .int (mkW ts ws i q)) (fun q => .int (mkW ts ws i q)) rfl (chk_one rfl) (by rw [List.length_range]; exact l8) (fun q hq ky kn k => ?_) ?_
    · walk_at "pv"; exact k
    walk_at "wgo"
    rw [intsD_map]
    refine ⟨by rw [List.length_map, List.length_range]; omega, fun m hm hle => ?_⟩
    have em : m = mkW ts ws i p := by
      obtain ⟨q, hq, rfl⟩ := List.mem_map.mp hm
      have a := hle (mkW ts ws i p) (List.mem_map.mpr ⟨p, List.mem_range.mpr pl, rfl⟩)
      have b := w1 q (List.mem_range.mp hq)
      omega
    subst em
    walk_at "pv"
    rw [intsD_map]
    refine ⟨p, ix_range pl, fun m hm z => ?_, ?_⟩
    · rw [ix_range (Nat.lt_trans hm pl)] at z
      exact w2 m hm (Option.some.inj z)
    walk_at "pv"
    refine ⟨by rw [List.length_map]; exact Nat.lt_of_le_of_lt (List.length_take_le' i ws) (Nat.lt_of_le_of_lt hl (lt_ rfl)), ?_⟩
    walk_at "wgo"
    refine ⟨_, ixRange pl, ?_⟩
    walk_at "wgo"
    refine ⟨_, ixRow pl, ?_⟩
    walk_at "wgo"
    refine ⟨_, ixL 1 rfl, ?_⟩
    walk_at "wgo"
    refine ⟨trivial, ?_⟩
    walk_at "wgo"
    refine ⟨p, by rw [List.length_map, List.length_range]; exact ixN_nat pl, ?_⟩
    walk_at "pv"
    refine kk _ ⟨.val (.int (0 + (i : Nat))), .val (.int (p : Nat)), ?_⟩
    rw [set_map_range (f := fun q => D.int (mkW ts ws i q)) (g := fun q => D.int (mkW ts ws (i + 1) q)) _ (by rw [mkW_snoc hp, if_pos rfl]) (fun q hq => by rw [mkW_snoc hp, if_neg hq]), take_snoc hp]
    unfold wD
    rw [List.map_append]
    rfl
  · obtain ⟨y2, y5, rfl⟩ := hP
    have e1 : (rngD 0 ((ws.length : Nat) : Int).toNat).length = ws.length := by simp [rngD]
    rw [e1, List.take_length]
    walk_at "pv"
    exact ⟨rfl, rfl⟩
theorem k_law_written : Kp_law_written sp_law_written := by
  intro r
  refine keeps_d fun ts hp => ⟨rfl, ?_⟩
  obtain ⟨ht, hb⟩ : TsOk ts ∧ ∀ t ∈ ts, Bd 1000 t.begin := hp
  have hs : ∀ t ∈ ts, Bd 1000 t.stride := fun t m => Bd.of_lt (by have := (ht.ok t m).st; omega) (ht.big t m)
  have l8 : ts.length ≤ LIM := Nat.le_trans ht.few (by decide)
  have ls : (Str.ofString " ").length = 1 := by decide +kernel
  walk_at "pv"
  refine lc_map ts rowD (fun t => .str (lineT t)) rfl (chk_one rfl) l8 (fun t hm ky kn k => ?_) ?_
  · have h10 := (ht.ok t hm).len
    have n1 := len_num (hs t hm)
    have n2 := len_num (hb t hm)
    walk_at "pv"
    refine ⟨by rw [ls]; exact Nat.le_trans (by omega : t.name.length + 1 ≤ 11) (by decide), ?_⟩
    walk_at "pv"
    refine ⟨(hs t hm).strOk (by decide), ?_⟩
    walk_at "pv"
    refine ⟨by rw [len_app, ls]; exact Nat.le_trans (by omega : _ ≤ 400) (by decide), ?_⟩
    walk_at "pv"
    refine ⟨by rw [len_app, len_app, ls]; exact Nat.le_trans (by omega : _ ≤ 400) (by decide), ?_⟩
    walk_at "pv"
    refine ⟨(hb t hm).strOk (by decide), ?_⟩
    walk_at "pv"
    refine ⟨by rw [len_app, len_app, len_app, ls]; exact Nat.le_trans (by omega : _ ≤ 800) (by decide), ?_⟩
    walk_at "pv"
    exact k
  walk_at "pv"
  rw [strsD_map]
  have lens : ∀ x ∈ ts.map lineT, x.length ≤ 700 := fun x hx => by
    obtain ⟨t, m, rfl⟩ := List.mem_map.mp hx
    exact len_line (ht.ok t m) (hs t m) (hb t m)
  have l8' := ht.few
  have ln : (Str.ofString "\n").length = 1 := by decide +kernel
  walk_at "wgo"
  refine ⟨?_, ?_⟩
  · rw [ln, List.length_map]
    have := sum_le (ns := (ts.map lineT).map (·.length)) (m := 700) fun n hn => by
      obtain ⟨x, hx, rfl⟩ := List.mem_map.mp hn
      exact lens x hx
    rw [List.length_map, List.length_map] at this
    have h2 : ts.length * 700 ≤ 8 * 700 := Nat.mul_le_mul_right _ l8'
    exact Nat.le_trans (by omega : _ ≤ 5608) (by decide)
  walk_at "pv"
  refine ⟨rfl, ?_, rfl⟩
  show D.str (Txt.join (Str.ofString "\n") (ts.map lineT)) = D.str (textT ts)
  rw [txt_join, nl_str]
  rfl

end SD

namespace SD
open PySem L2 PV

end SD

namespace SD
open PySem L2 PV
theorem k_law_divisor : Kp_law_divisor sp_law_divisor := by
  intro r
  refine keeps_d fun p _ => ⟨rfl, ?_⟩
  obtain ⟨a0, b0⟩ := p
  walk_at "wgo"
  refine ⟨fun m e => ∃ a b : Nat, e = [.val (.int a), .val (.int b)] ∧ m = b ∧ Nat.gcd a b = Nat.gcd a0 b0, ⟨b0, a0, b0, rfl, rfl, rfl⟩, ?_⟩
  rintro m e ⟨a, b, rfl, em, hg⟩
  walk_at "wgo"
  refine ifB2 (fun h => ?_) (fun h => ?_)
  · have h := of_decide_eq_true h
    have hb : b ≠ 0 := by omega
    walk_at "wgo"
    refine ⟨by omega, ?_⟩
    walk_at "wgo"
    refine ⟨lt_ rfl, lt_ rfl, ?_⟩
    refine ⟨a % b, by rw [em]; exact Nat.mod_lt _ (Nat.pos_of_ne_zero hb), b, a % b, ?_, rfl, ?_⟩
    · show [Sl.val (.int (b : Nat)), Sl.val (.int (((a : Nat) : Int) % ((b : Nat) : Int)))] = _
      rw [← Int.natCast_emod]
    · rw [← hg, Nat.gcd_comm b, ← Nat.gcd_rec, Nat.gcd_comm]
  · have h := of_decide_eq_false h
    have hb : b = 0 := by omega
    subst hb
    rw [Nat.gcd_zero_right] at hg
    walk_at "wgo"
    exact ⟨rfl, by rw [hg], rfl⟩
theorem k_law_turns_in : Kp_law_turns_in sp_law_turns_in := by
  intro r
  refine keeps_d fun ts ht => ⟨rfl, ?_⟩
  replace ht : TsOk ts := ht
  have l8 : ts.length ≤ LIM := Nat.le_trans ht.few (by decide)
  have one := ht.one
  walk_at "pv"
  refine for_ix (fun i e => ∃ y4 y5 y6 : Sl, (i = 0 ∨ ∃ a b c, y4 = .val a ∧ y5 = .val b ∧ y6 = .val c) ∧ e = [.val (.lst (ts.map rowD)), .un, .val (.int (lcmL ((ts.take i).map fun t => t.stride.toNat) : Nat)), .val (.int (topL (ts.take i))), y4, y5, y6]) ⟨_, _, _, .inl rfl, rfl⟩ (fun i d e hd p k kk => ?_) (fun e p => ?_)
  · obtain ⟨y4, y5, y6, _, rfl⟩ := p
    rw [List.getElem?_map] at hd
    cases q : ts[i]? with
    | none => rw [q] at hd; cases hd
    | some t =>
      rw [q] at hd
      cases hd
      have tm := List.mem_of_getElem? q
      have t1 := (ht.ok t tm).st
      have t2 := ht.big t tm
      have bd := lcmL_bd ((ts.take i).map fun t => t.stride.toNat) 1000 fun n hn => by
        obtain ⟨u, um, rfl⟩ := List.mem_map.mp hn
        have u0 := List.mem_of_mem_take um
        have h1 := (ht.ok u u0).st
        have h2 := ht.big u u0
        refine ⟨by omega, ?_⟩
        have : ((u.stride.toNat : Nat) : Int) < ((2 ^ 1000 : Nat) : Int) := by rw [Int.toNat_of_nonneg (by omega), Int.natCast_pow]; exact h2
        exact_mod_cast this
      have ln : ((ts.take i).map fun t => t.stride.toNat).length ≤ 8 := by rw [List.length_map]; exact Nat.le_trans (List.length_take_le' i ts) ht.few
      have big : Bd 8001 ((lcmL ((ts.take i).map fun t => t.stride.toNat) : Nat) : Int) := Bd.nat (Nat.lt_of_lt_of_le bd.2 (Nat.pow_le_pow_right (by decide) (by omega)))
      have tb : Bd 1000 t.stride := Bd.of_lt (by omega) t2
      have et : t.stride = ((t.stride.toNat : Nat) : Int) := (Int.toNat_of_nonneg (by omega)).symm
      have ek : lcmL ((ts.take (i + 1)).map fun t => t.stride.toNat) = Nat.lcm (lcmL ((ts.take i).map fun t => t.stride.toNat)) t.stride.toNat := by
        rw [List.take_add_one, q, List.map_append]
        exact lcmL_snoc _ _
      have eo : topL (ts.take (i + 1)) = if t.begin > topL (ts.take i) then t.begin else topL (ts.take i) := by
        rw [List.take_add_one, q]
        exact topL_snoc _ _
      rw [ek, eo] at kk
      generalize lcmL ((ts.take i).map fun t => t.stride.toNat) = L at *
      generalize topL (ts.take i) = o at *
      generalize hn : t.stride.toNat = n at *
      have gp : 0 < Nat.gcd L n := Nat.gcd_pos_of_pos_right _ (by omega)
      have gle : Nat.gcd L n ≤ n := Nat.gcd_le_right _ (by omega)
      have gb : Bd 8999 ((Nat.gcd L n : Nat) : Int) := (tb.le (by omega) (by omega)).mono (by decide)
      walk_at "pv"
      refine callK_d ((L, n) : Nat × Nat) rfl rfl (by rw [et]; rfl) rfl rfl trivial ?_
      walk_at "wgo"
      refine ⟨⟨by show (0 : Int) < ((Nat.gcd L n : Nat) : Int); omega, Bd.divOk gb (by decide)⟩, ?_⟩
      walk_at "pv"
      refine ⟨Bd.mulOk (Bd.ediv big) tb (by decide), ?_⟩
      walk_at "pv"
      have el : ((L : Nat) : Int) / ((Nat.gcd L n : Nat) : Int) * t.stride = ((Nat.lcm L n : Nat) : Int) := by rw [et, ← div_mul_lcm, Int.natCast_mul, Int.natCast_ediv]
      refine ifB2 (fun c => ?_) (fun c => ?_)
      · have c := of_decide_eq_true c
        rw [if_pos (by omega : t.begin > o)] at kk
        walk_at "pv"
        refine kk _ ⟨.val (.str t.name), .val (.int t.stride), .val (.int t.begin), .inr ⟨_, _, _, rfl, rfl, rfl⟩, ?_⟩
        rw [← el]
        rfl
      · have c := of_decide_eq_false c
        rw [if_neg (by omega : ¬ t.begin > o)] at kk
        walk_at "pv"
        refine kk _ ⟨.val (.str t.name), .val (.int t.stride), .val (.int t.begin), .inr ⟨_, _, _, rfl, rfl, rfl⟩, ?_⟩
        rw [← el]
        rfl
  · obtain ⟨y4, y5, y6, hy, rfl⟩ := p
    rw [List.length_map] at hy ⊢
    rw [List.take_length]
    obtain ⟨a, b, c, rfl, rfl, rfl⟩ := hy.resolve_left (by omega)
    have ew : ((lcmL (ts.map fun t => t.stride.toNat) : Nat) : Int) = wholeT ts := rfl
    rw [ew, topL_max ht]
    have w1 := whole_pos ht
    have ble := begin_le ht
    walk_at "pv"
    refine lc_map ts rowD (fun t => .int (tbl t (maxB ts))) rfl (chk_one rfl) l8 (fun t hm ky kn k => ?_) ?_
    · have t1 := (ht.ok t hm).st
      have tb : Bd 1000 t.stride := Bd.of_lt (by omega) (ht.big t hm)
      rw [← tbl_top t1 (ble t hm)] at k
      walk_at "pv"
      exact k
    walk_at "wgo"
    rw [intsD_map]
    walk_at "pv"
    refine lc_map ts rowD (fun t => .int (wholeT ts / t.stride)) rfl (chk_one rfl) l8 (fun t hm ky kn k => ?_) ?_
    · have t1 := (ht.ok t hm).st
      have tb : Bd 1000 t.stride := Bd.of_lt (by omega) (ht.big t hm)
      walk_at "pv"; exact k
    walk_at "wgo"
    rw [intsD_map]
    walk_at "pv"
    exact ⟨rfl, rfl, rfl⟩

end SD

namespace SD
open PySem L2 PV
theorem k_is_figure : Kp_is_figure sp_is_figure := by
  intro r
  refine keeps_d fun d hd => ⟨rfl, ?_⟩
  replace hd : plnD d = true := hd
  cases d <;> first
    | exact absurd (show false = true from hd) Bool.false_ne_true
    | (walk_at "pv"; exact ⟨rfl, rfl, rfl⟩)
theorem k_is_count : Kp_is_count sp_is_count := by
  intro r
  refine keeps_d fun d hd => ⟨rfl, ?_⟩
  replace hd : plnD d = true := hd
  cases d <;> first
    | exact absurd (show false = true from hd) Bool.false_ne_true
    | (walk_at "pv"; refine callK_d _ rfl rfl rfl rfl rfl rfl ?_; walk_at "pv"; exact ⟨rfl, rfl, rfl⟩)
theorem k_is_row_of : Kp_is_row_of sp_is_row_of := by
  intro r
  refine keeps_d fun p hp => ⟨rfl, ?_⟩
  obtain ⟨d, n⟩ := p
  replace hp : plnD d = true := hp
  cases d <;> first
    | exact absurd (show false = true from hp) Bool.false_ne_true
    | (walk_at "pv"; exact ⟨rfl, rfl, rfl⟩)
    | skip
  all_goals
    rename_i xs
    walk_at "pv"
    refine ⟨rfl, congrArg D.bl ?_, rfl⟩
    show decide ((xs.length : Int) = (n : Nat)) = decide (xs.length = n)
    exact decide_eq_decide.mpr (by omega)

end SD

namespace SD
open PySem L2 PV
theorem k_deal_written : Kp_deal_written sp_deal_written := by
  intro r
  refine keeps_u fun ts hp => ⟨rfl, ?_⟩
  obtain ⟨ht, hb⟩ : TsOk ts ∧ ∀ t ∈ ts, Bd 1000 t.begin := hp
  have hs : ∀ t ∈ ts, Bd 1000 t.stride := fun t m => Bd.of_lt (by have := (ht.ok t m).st; omega) (ht.big t m)
  have l8' := ht.few
  have lens : ∀ x ∈ ts.map lineT, x.length ≤ 700 := fun x hx => by
    obtain ⟨t, m, rfl⟩ := List.mem_map.mp hx
    exact len_line (ht.ok t m) (hs t m) (hb t m)
  walk_at "pv"
  refine callK_u ((textT ts, ts) : Str × List Tk) rfl rfl rfl rfl rfl (fun z => (by cases z)) ⟨takersO_text ht, ht, ?_, ?_, ?_⟩ ?_
  · have := len_join (sep := ⟨#[10]⟩) rfl lens
    rw [List.length_map] at this
    have h2 : ts.length * 701 ≤ 8 * 701 := Nat.mul_le_mul_right _ l8'
    exact Nat.le_trans this (by omega)
  · rw [show Txt.split (textT ts, ts).1 "\n" = _ from split_text ht, List.length_map]; exact Nat.le_trans l8' (by decide)
  · rw [show Txt.split (textT ts, ts).1 "\n" = _ from split_text ht]
    exact fun l hl => Nat.le_trans (lens l hl) (by decide)
  walk_at "pv"
  exact ⟨rfl, rfl, rfl⟩

end SD

namespace SD
open PySem L2 PV

end SD

namespace SD
open PySem L2 PV
theorem k_shows_lead : Kp_shows_lead sp_shows_lead := by
  intro r
  refine keeps_d fun x hx => ⟨rfl, ?_⟩
  obtain ⟨⟨⟨ts, i, j⟩, k⟩, d⟩ := x
  obtain ⟨h, ⟨hp, hit⟩, hb, kb⟩ : Two ts i j ∧ CtOk d ∧ (∀ t ∈ ts, Bd 1000 t.begin) ∧ Bd 1000 k := hx
  have ht := h.ok
  have hi := h.hi
  have hj := h.hj
  obtain ⟨⟨si1, si2⟩, sj1, sj2⟩ := h.sts
  have bi := hb _ (getT_mem hi)
  have bj := hb _ (getT_mem hj)
  walk_at "pv"
  refine callK_d ((d, 5) : D × Nat) rfl rfl rfl rfl rfl hp ?_
  walk_at "pv"
  refine ifB2 (fun c => ?_) (fun c => ?_)
  · walk_at "pv"
    have c : isRow d 5 = false := by simpa using c
    refine ⟨rfl, congrArg D.bl (Eq.symm (Bool.eq_false_iff.mpr fun z => ?_)), rfl⟩
    obtain ⟨g, u, v, x, y, e⟩ := shL_ex z
    unfold isRow at c
    rw [e] at c
    exact absurd (show true = false from c) (by decide)
  have c : isRow d 5 = true := by simpa using c
  obtain ⟨xs, hxs, xl⟩ : ∃ xs, itT d = some xs ∧ xs.length = 5 := by
    unfold isRow at c
    cases e : itT d with
    | none => rw [e] at c; exact absurd c Bool.false_ne_true
    | some xs => rw [e] at c; exact ⟨xs, rfl, of_decide_eq_true c⟩
  obtain ⟨_, hxy⟩ := hit xs hxs
  have hdd : d = .tup xs ∨ d = .tpn xs := by
    cases d <;> first
      | exact .inl (congrArg D.tup (Option.some.inj hxs))
      | exact .inr (congrArg D.tpn (Option.some.inj hxs))
      | exact absurd hxs (by simp [itT])
  rcases hdd with rfl | rfl
  all_goals
    walk_at "pv"
    refine lc_map xs (fun d => d) (fun d => .bl (isFig d)) (by simp) (chk_one rfl) (by rw [xl]; decide) (fun d hd ky kn kk => ?_) ?_
    · walk_at "pv"
      refine callK_d d rfl rfl rfl rfl rfl (hxy d hd).1 ?_
      walk_at "pv"
      exact kk
    walk_at "wgo"
    rw [boolsD_map]
    walk_at "wgo"
    rw [show (xs.map isFig).all id = xs.all isFig by rw [List.all_map]; rfl]
    refine ifB2 (fun c2 => ?_) (fun c2 => ?_)
    · walk_at "pv"
      refine ⟨rfl, congrArg D.bl (Eq.symm (Bool.eq_false_iff.mpr fun z => ?_)), rfl⟩
      obtain ⟨g, u, v, x, y, e⟩ := shL_ex z
      have c2 : xs.all isFig = false := by simpa using c2
      rw [hxs] at e
      rw [Option.some.inj e] at c2
      exact absurd (show true = false from c2) (by decide)
    · have c2 : xs.all isFig = true := by simpa using c2
      obtain ⟨ns, rfl, nb⟩ : ∃ ns : List Int, xs = ns.map .int ∧ ∀ n ∈ ns, Bd 3900 n := ints_fig c2 hxy
      rw [List.length_map] at xl
      obtain ⟨g, u, v, a, b, rfl⟩ := two_len xl rfl
      have gb := nb g (by simp)
      have ub := nb u (by simp)
      have vb := nb v (by simp)
      have ab := nb a (by simp)
      have bb := nb b (by simp)
      have eL := shL_at (ts := ts) (i := i) (j := j) (k := k) hxs
      have no : ¬ ((1 ≤ g ∧ 1 ≤ u ∧ 1 ≤ v) ∧ ((getT ts i).stride = g * u ∧ (getT ts j).stride = g * v) ∧ u * a + v * b = 1 ∧ 0 ≤ k ∧ ((getT ts j).begin - (getT ts i).begin < (k - u + 1) * g ∨ ((getT ts j).begin - (getT ts i).begin = (k - u + 1) * g ∧ j < i))) → false = shL ts i j k _ := fun z => by rw [eL]; exact (decide_eq_false z).symm
      have yes : ((1 ≤ g ∧ 1 ≤ u ∧ 1 ≤ v) ∧ ((getT ts i).stride = g * u ∧ (getT ts j).stride = g * v) ∧ u * a + v * b = 1 ∧ 0 ≤ k ∧ ((getT ts j).begin - (getT ts i).begin < (k - u + 1) * g ∨ ((getT ts j).begin - (getT ts i).begin = (k - u + 1) * g ∧ j < i))) → true = shL ts i j k _ := fun z => by rw [eL]; exact (decide_eq_true z).symm
      walk_at "pv"
      rw [strsD_map]
      refine ⟨i, by rw [List.getElem?_map, getT_at hi]; rfl, fun m hm z => ?_, ?_⟩
      · rw [List.getElem?_map, getT_at (by omega : m < ts.length)] at z
        have := (name_inj ht (by omega : m < ts.length) hi).mp (Option.some.inj z)
        omega
      walk_at "pv"
      rw [strsD_map]
      refine ⟨j, by rw [List.getElem?_map, getT_at hj]; rfl, fun m hm z => ?_, ?_⟩
      · rw [List.getElem?_map, getT_at (by omega : m < ts.length)] at z
        have := (name_inj ht (by omega : m < ts.length) hj).mp (Option.some.inj z)
        omega
      walk_at "pv"
      refine ifB2 (fun q => ?_) (fun q => ?_)
      · have q := of_decide_eq_true q
        walk_at "pv"
        exact ⟨rfl, congrArg D.bl (no (by omega)), rfl⟩
      have q1 := of_decide_eq_false q
      walk_at "pv"
      refine ifB2 (fun q => ?_) (fun q => ?_)
      · have q := of_decide_eq_true q
        walk_at "pv"
        exact ⟨rfl, congrArg D.bl (no (by omega)), rfl⟩
      have q2 := of_decide_eq_false q
      walk_at "pv"
      refine ifB2 (fun q => ?_) (fun q => ?_)
      · have q := of_decide_eq_true q
        walk_at "pv"
        exact ⟨rfl, congrArg D.bl (no (by omega)), rfl⟩
      have q3 := of_decide_eq_false q
      walk_at "pv"
      refine ifB2 (fun q => ?_) (fun q => ?_)
      · have q : ¬ (getT ts i).stride = g * u := by
          have q : (!decide ((getT ts i).stride = g * u)) = true := q
          simpa using q
        walk_at "pv"
        exact ⟨rfl, congrArg D.bl (no fun z => q z.2.1.1), rfl⟩
      have q4 : (getT ts i).stride = g * u := by
        have q : (!decide ((getT ts i).stride = g * u)) = false := q
        simpa using q
      walk_at "pv"
      refine ifB2 (fun q => ?_) (fun q => ?_)
      · have q : ¬ (getT ts j).stride = g * v := by
          have q : (!decide ((getT ts j).stride = g * v)) = true := q
          simpa using q
        walk_at "pv"
        exact ⟨rfl, congrArg D.bl (no fun z => q z.2.1.2), rfl⟩
      have q5 : (getT ts j).stride = g * v := by
        have q : (!decide ((getT ts j).stride = g * v)) = false := q
        simpa using q
      walk_at "pv"
      refine ifB2 (fun q => ?_) (fun q => ?_)
      · have q : ¬ u * a + v * b = 1 := by
          have q : (!decide (u * a + v * b = 1)) = true := q
          simpa using q
        walk_at "pv"
        exact ⟨rfl, congrArg D.bl (no fun z => q z.2.2.1), rfl⟩
      have q6 : u * a + v * b = 1 := by
        have q : (!decide (u * a + v * b = 1)) = false := q
        simpa using q
      walk_at "pv"
      refine ifB2 (fun q => ?_) (fun q => ?_)
      · have q7 := of_decide_eq_true q
        walk_at "pv"
        refine ifB2 (fun q => ?_) (fun q => ?_)
        · have q8 := of_decide_eq_true q
          walk_at "pv"
          exact ⟨rfl, congrArg D.bl (yes ⟨⟨by omega, by omega, by omega⟩, ⟨q4, q5⟩, q6, by omega, .inl q8⟩), rfl⟩
        have q8 := of_decide_eq_false q
        walk_at "pv"
        refine ifB2 (fun q => ?_) (fun q => ?_)
        · have q9 : (getT ts j).begin - (getT ts i).begin = (k - u + 1) * g := of_decide_eq_true q
          walk_at "pv"
          refine ⟨rfl, congrArg D.bl ?_, rfl⟩
          rw [eL]
          exact decide_eq_decide.mpr ⟨fun z => ⟨⟨by omega, by omega, by omega⟩, ⟨q4, q5⟩, q6, by omega, .inr ⟨q9, by omega⟩⟩, fun z => (z.2.2.2.2.elim (fun y => absurd y q8) fun y => by omega)⟩
        · have q9 : ¬ (getT ts j).begin - (getT ts i).begin = (k - u + 1) * g := of_decide_eq_false q
          walk_at "pv"
          exact ⟨rfl, congrArg D.bl (no fun z => z.2.2.2.2.elim (fun y => q8 y) fun y => q9 y.1), rfl⟩
      · have q7 := of_decide_eq_false q
        walk_at "pv"
        exact ⟨rfl, congrArg D.bl (no fun z => q7 z.2.2.2.1), rfl⟩
theorem k_is_lead_shown : Kp_is_lead_shown sp_is_lead_shown := by
  intro r
  refine keeps_d fun x hx => ⟨rfl, ?_⟩
  obtain ⟨⟨⟨ts, i, j⟩, k⟩, d⟩ := x
  obtain ⟨ht, hb, hi, hj, kb, hc⟩ : LdOk ts i j k d := hx
  unfold ldD
  walk_at "pv"
  refine ifB2 (fun q => ?_) (fun q => ?_)
  · have q : (getT ts i).name = (getT ts j).name := of_decide_eq_true q
    have e := (name_inj ht hi hj).mp q
    walk_at "pv"
    refine ⟨rfl, congrArg D.bl ?_, rfl⟩
    show false = ldB ts i j k d
    unfold ldB
    rw [if_pos e]
  have q : ¬ (getT ts i).name = (getT ts j).name := of_decide_eq_false q
  have ne : i ≠ j := fun e => q (by rw [e])
  walk_at "pv"
  refine callK_d (D.int k) rfl rfl rfl rfl rfl rfl ?_
  walk_at "pv"
  have nd : (ts.map fun t => D.str t.name) = (ts.map (·.name)).map D.str := by rw [List.map_map]; rfl
  have nin : ∀ p, p < ts.length → inD (.str (getT ts p).name) ((ts.map (·.name)).map D.str) = true := fun p hp => by
    rw [inD_str]
    exact decide_eq_true (List.mem_map.mpr ⟨_, getT_mem hp, rfl⟩)
  rw [nd]
  refine ⟨fun y hy => (by obtain ⟨u, _, rfl⟩ := List.mem_map.mp hy; rfl), rfl, ?_⟩
  walk_at "wgo"
  rw [nin i hi]
  walk_at "pv"
  rw [nd]
  refine ⟨fun y hy => (by obtain ⟨u, _, rfl⟩ := List.mem_map.mp hy; rfl), rfl, ?_⟩
  walk_at "wgo"
  rw [nin j hj]
  walk_at "pv"
  refine callK_d (((ts, i, j), k), d) rfl rfl rfl rfl rfl ⟨⟨ht, hi, hj, ne⟩, hc, hb, kb⟩ ?_
  walk_at "pv"
  refine ⟨rfl, congrArg D.bl ?_, rfl⟩
  show shL ts i j k d = ldB ts i j k d
  unfold ldB
  rw [if_neg ne]
theorem k_holds : Kp_holds sp_holds := by
  intro r
  refine keeps_d fun x hx => ⟨rfl, ?_⟩
  obtain ⟨⟨⟨ts, i, j⟩, k⟩, d⟩ := x
  replace hx : LdOk ts i j k d := hx
  obtain ⟨ht, hb, hi, hj, kb, hc⟩ := id hx
  have pc : PlOk 11 (ldD ts i j k) := pl_tup fun d hd => by
    rcases mem5 hd with rfl | rfl | rfl | rfl | rfl
    · exact pl_str (by decide +kernel)
    · exact pl_str (ok_text ht)
    · exact pl_str (nm_ok (ht.ok _ (getT_mem hi)).nm)
    · exact pl_str (nm_ok (ht.ok _ (getT_mem hj)).nm)
    · exact pl_int _
  obtain ⟨ps, ep, cp, dp, lp⟩ := pl_tupE pc (.inl rfl)
  cases (show some (PyData.tuple [.str "lead", .str (textT ts), .str (getT ts i).name, .str (getT ts j).name, .int k]) = some (PyData.tuple ps) from ep)
  show wpSs _ _ _ _ (startE _ _ [ldD ts i j k, d])
  unfold ldD
  walk_at "pv"
  refine ⟨shaped_of cp dp (by decide), rfl, ?_⟩
  walk_at "pv"
  refine ⟨fun y hy => (by rcases mem2 hy with rfl | rfl <;> rfl), rfl, ?_⟩
  walk_at "pv"
  refine callK_u ts rfl rfl rfl rfl rfl (fun z => (by cases z)) ⟨ht, hb⟩ ?_
  walk_at "pv"
  refine callK_d (((ts, i, j), k), d) rfl rfl rfl rfl rfl hx ?_
  walk_at "pv"
  exact ⟨rfl, rfl, rfl⟩

end SD

namespace SD
open PySem L2 PV
theorem k_law_greatest : Kp_law_greatest sp_law_greatest := by
  intro r
  refine keeps_d fun x hx => ⟨rfl, ?_⟩
  obtain ⟨ts, i, j⟩ := x
  obtain ⟨h, hlim⟩ : Two ts i j ∧ runT ts + rndT ts ≤ 1000000 := hx
  have ht := h.ok
  have hi := h.hi
  have hj := h.hj
  have ne := h.ne
  have l8 : ts.length ≤ LIM := Nat.le_trans ht.few (by decide)
  obtain ⟨⟨si1, si2⟩, sj1, sj2⟩ := h.sts
  obtain ⟨g0, gb⟩ := h.gcd
  have rn0 := runT_nn ht.sts
  have rd0 := rnd_nn ht
  obtain ⟨n, hn⟩ := Int.eq_ofNat_of_zero_le (show 0 ≤ runT ts + rndT ts by omega)
  walk_at "pv"
  refine callK_d ts rfl rfl rfl rfl rfl ht ?_
  walk_at "pv"
  refine callK_d (((getT ts i).stride.toNat, (getT ts j).stride.toNat) : Nat × Nat) rfl rfl (gcd_rs (by omega) (by omega)) rfl rfl trivial ?_
  have eg : ((Nat.gcd (getT ts i).stride.toNat (getT ts j).stride.toNat : Nat) : Int) = ((divT ts i j : Nat) : Int) := rfl
  walk_at "wgo"
  rw [eg]
  have gg : Bd 8999 ((divT ts i j : Nat) : Int) := gb.mono (by decide)
  walk_at "pv"
  refine lc_map ts rowD (fun _ => .int 0) rfl (chk_one rfl) l8 (fun t hm ky kn k => ?_) ?_
  · walk_at "pv"; exact k
  have lead : ∀ ws : List Nat, IsWord ts ws → ws.length = n → (∃ k, k ≤ ws.length ∧ leadP ts i j (ws.take k) = leadT ts i j) ∧ ∀ k, k ≤ ws.length → leadP ts i j (ws.take k) ≤ leadT ts i j := fun ws hw hl =>
    ⟨lead_met h hw (by omega), fun k hk => (lead_in h hw hk).2⟩
  have snoc : ∀ (l : List Nat) (x : Nat), leadP ts i j (l ++ [x]) = leadP ts i j l + (if x = i then 1 else 0) * ((getT ts i).stride / ((divT ts i j : Nat) : Int)) - (if x = j then 1 else 0) * ((getT ts j).stride / ((divT ts i j : Nat) : Int)) := leadP_snoc ts i j
  have e0 : (ts.map fun _ => D.int 0) = (List.range ts.length).map fun _ => D.int 0 := tks_range _
  rw [e0]
  have ix : ∀ {q : Nat} {f : Nat → D}, q < ts.length → ixN ((List.range ts.length).map f).length ((q : Nat) : Int) = some q := fun h => by rw [List.length_map, List.length_range]; exact ixN_nat h
  have gX : Bd 1000 ((getT ts i).stride / ((divT ts i j : Nat) : Int)) := si2.ediv
  have gY : Bd 1000 ((getT ts j).stride / ((divT ts i j : Nat) : Int)) := sj2.ediv
  walk_at "pv"
  refine ⟨i, ix hi, ?_⟩
  walk_at "pv"
  refine ⟨j, by rw [List.length_set]; exact ix hj, ?_⟩
  generalize (getT ts i).stride / ((divT ts i j : Nat) : Int) = X at *
  generalize (getT ts j).stride / ((divT ts i j : Nat) : Int) = Y at *
  rw [set_map_range (f := fun _ => D.int 0) (g := fun q => D.int (if q = i then X else 0)) _ (by rw [if_pos rfl]) (fun q hq => by rw [if_neg hq]),
    set_map_range (f := fun q => D.int (if q = i then X else 0)) (g := fun q => D.int (if q = i then X else if q = j then 0 - Y else 0)) _ (by rw [if_neg (fun z => ne z.symm), if_pos rfl]) (fun q hq => by by_cases z : q = i <;> simp [z, hq])]
  obtain ⟨ws, wl, hw⟩ := word_ex ht n
  obtain ⟨⟨km, km1, km2⟩, kle⟩ := lead ws hw wl
  walk_at "pv"
  rw [hn, ← wl]
  refine callK_u ((ts, ws) : List Tk × List Nat) rfl rfl rfl rfl rfl (fun z => (by cases z)) ⟨ht, hw, by rw [wl]; omega⟩ ?_
  walk_at "pv"
  have z0 : leadP ts i j (ws.take 0) = 0 := by unfold leadP; simp
  refine for_ix (fun m e => ∃ (y4 : Sl) (top : Int), (∀ k, k ≤ m → leadP ts i j (ws.take k) ≤ top) ∧ (∃ k, k ≤ m ∧ leadP ts i j (ws.take k) = top) ∧ e = [.val (.lst (ts.map rowD)), .val (.int (i : Nat)), .val (.int (j : Nat)), .own (.lst ((List.range ts.length).map fun q => D.int (if q = i then X else if q = j then 0 - Y else 0))), y4, .val (.int (runT ts)), .val (.int (rndT ts)), .val (.int ((divT ts i j : Nat) : Int)), .val (.int top), .val (.int (leadP ts i j (ws.take m))), .un]) ⟨_, 0, fun k hk => (by rw [Nat.le_zero.mp hk, z0]; exact Int.le_refl _), ⟨0, Nat.le_refl _, z0⟩, by rw [z0]; rfl⟩ (fun m d e hd hP k kk => ?_) (fun e hP => ?_)
  · obtain ⟨y4, top, t1, ⟨k0, k1, k2⟩, rfl⟩ := hP
    have lm : m < ws.length := by
      have := (List.getElem?_eq_some_iff.mp hd).1
      simpa [wD] using this
    have hp := List.getElem?_eq_getElem lm
    generalize ws[m] = p at hp
    have hd : d = .int ((p : Nat) : Int) := by
      rw [List.getElem?_map, hp] at hd
      exact (Option.some.inj hd).symm
    subst hd
    have pl := (word_at ht hw hp).1
    have st : leadP ts i j (ws.take m) + (if p = i then X else if p = j then 0 - Y else 0) = leadP ts i j (ws.take (m + 1)) := by
      rw [take_snoc hp, snoc]
      by_cases a : p = i
      · rw [if_pos a, if_pos a, if_neg (fun z => ne (a.symm.trans z)), Int.one_mul, Int.zero_mul]; omega
      · by_cases b : p = j
        · rw [if_neg a, if_pos b, if_neg a, if_pos b, Int.one_mul, Int.zero_mul]; omega
        · rw [if_neg a, if_neg b, if_neg a, if_neg b, Int.zero_mul, Int.zero_mul]; omega
    walk_at "pv"
    refine ⟨_, ixRange pl, ?_⟩
    walk_at "wgo"
    rw [st]
    walk_at "pv"
    have up : ∀ T : Int, top ≤ T → leadP ts i j (ws.take (m + 1)) ≤ T → ∀ k, k ≤ m + 1 → leadP ts i j (ws.take k) ≤ T := fun T a b k hk => by
      by_cases z : k ≤ m
      · exact Int.le_trans (t1 k z) a
      · rw [show k = m + 1 by omega]; exact b
    refine ifB2 (fun c => ?_) (fun c => ?_)
    · have c := of_decide_eq_true c
      walk_at "pv"
      exact kk _ ⟨_, _, up _ (by omega) (Int.le_refl _), ⟨m + 1, Nat.le_refl _, rfl⟩, rfl⟩
    · have c := of_decide_eq_false c
      walk_at "pv"
      exact kk _ ⟨_, _, up _ (Int.le_refl _) (by omega), ⟨k0, by omega, k2⟩, rfl⟩
  · obtain ⟨y4, top, t1, ⟨k0, k1, k2⟩, rfl⟩ := hP
    rw [show (ws.map iD).length = ws.length from List.length_map _] at t1 k1
    have a := t1 km km1
    have b := kle k0 k1
    have : top = leadT ts i j := by omega
    subst this
    walk_at "pv"
    exact ⟨rfl, rfl, rfl⟩

end SD

namespace SD
open PySem L2 PV
theorem k_law_marred_r1 : Kp_law_marred_r1 sp_law_marred_r1 := by
  intro r
  refine keeps_n fun p hp => ⟨rfl, ?_⟩
  obtain ⟨w, n⟩ := p
  obtain ⟨hw, hn⟩ : HwOk w ∧ Bd 3900 n := hp
  walk_at "pv"
  refine pull_ [D.lst [.int n], .non, .int 0, .int 1, .int (-1), .bl (eqS (.int n) (.int 0)), .bl (eqS (.int n) (.int 1)), .tup [], .tup [.int n], .str "", .str "a", .dct [] [], .int n, .str "1"] hw (Nat.le_of_ble_eq_true rfl) (Nat.le_of_ble_eq_true rfl) rfl rfl rfl rfl rfl rfl fun d w1 hd hw1 => ?_
  walk_at "pv"
  refine ⟨(d, w1), ⟨?_, hw1⟩, rfl, rfl, rfl⟩
  simp only [List.mem_cons, List.mem_nil_iff, or_false] at hd
  have i0 : Bd 3900 0 := (Bd.lit rfl : Bd 64 0).mono (by decide)
  have i1 : Bd 3900 1 := (Bd.lit rfl : Bd 64 1).mono (by decide)
  have i2 : Bd 3900 (-1) := (Bd.lit rfl : Bd 64 (-1)).mono (by decide)
  rcases hd with rfl | rfl | rfl | rfl | rfl | rfl | rfl | rfl | rfl | rfl | rfl | rfl | rfl | rfl
  all_goals first
    | exact ⟨el_int (by assumption), ct_int⟩
    | exact ⟨⟨rfl, fun i e => (by cases e)⟩, ct_no rfl rfl⟩
    | exact ⟨⟨rfl, fun i e => (by cases e)⟩, ct_tup (by simp) fun x hx => (List.not_mem_nil hx).elim⟩
    | exact ⟨⟨rfl, fun i e => (by cases e)⟩, ct_tup (by simp) fun x hx => (by rw [List.mem_singleton.mp hx]; exact el_int hn)⟩
theorem k_law_marred_r2 : Kp_law_marred_r2 sp_law_marred_r2 := by
  intro r
  refine keeps_n fun p hp => ⟨rfl, ?_⟩
  obtain ⟨w, ns⟩ := p
  obtain ⟨hw, ⟨l1, l2⟩, hn⟩ : HwOk w ∧ (1 ≤ ns.length ∧ ns.length ≤ 1000) ∧ ∀ n ∈ ns, Bd 3900 n := hp
  have ne : (ns.map PyData.int).isEmpty = false := by cases ns with
    | nil => exact absurd l1 (by decide)
    | cons a l => rfl
  have pt := pd_tp ns
  have st := sh_tp ns
  have i0 : Bd 3900 0 := (Bd.lit rfl : Bd 64 0).mono (by decide)
  have i1 : Bd 3900 1 := (Bd.lit rfl : Bd 64 1).mono (by decide)
  have i2 : Bd 3900 (-1) := (Bd.lit rfl : Bd 64 (-1)).mono (by decide)
  have hl : ((ns.map D.int).length : Nat) = ns.length := List.length_map _
  have ct := ct_ints (by omega : ns.length ≤ 100000) hn
  walk_at "wgo"
  refine ⟨Nat.zero_le _, rfl, ?_⟩
  walk_at "pv"
  rw [pt]
  walk_at "wgo"
  refine ⟨st, rfl, ?_⟩
  walk_at "wgo"
  rw [eqv_tnil, ne]
  walk_at "pv"
  refine tk_ hw (by decide) ((Bd.lit rfl : Bd 64 5).mono (by decide)) rfl rfl rfl rfl rfl rfl fun m w1 hm hw1 => ?_
  walk_at "pv"
  refine ifB2 (fun c => ?_) (fun c => ?_)
  · walk_at "pv"
    rw [pt]
    walk_at "wgo"
    refine ⟨st, rfl, ?_⟩
    walk_at "wgo"
    rw [eqv_tint]
    walk_at "pv"
    rw [pt]
    walk_at "wgo"
    refine ⟨st, rfl, ?_⟩
    walk_at "wgo"
    rw [eqv_tint]
    walk_at "pv"
    refine pull_ [D.lst [.tup (ns.map .int)], .non, .int 0, .int 1, .int (-1), .bl false, .bl false, .tup [], .tup [.tup (ns.map .int)], .str "", .str "a", .dct [] [], .tup (ns.map .int), .str "1"] hw1 (Nat.le_of_ble_eq_true rfl) (Nat.le_of_ble_eq_true rfl) rfl rfl rfl rfl rfl rfl fun d w2 hd hw2 => ?_
    walk_at "pv"
    refine ⟨(d, w2), ⟨?_, hw2⟩, rfl, rfl, rfl⟩
    simp only [List.mem_cons, List.mem_nil_iff, or_false] at hd
    rcases hd with rfl | rfl | rfl | rfl | rfl | rfl | rfl | rfl | rfl | rfl | rfl | rfl | rfl | rfl
    all_goals first
      | exact ct
      | exact ct_no rfl rfl
      | exact ct_tup (by simp) fun x hx => (List.not_mem_nil hx).elim
      | exact ct_tup (by simp) fun x hx => (by rw [List.mem_singleton.mp hx]; exact ⟨rfl, fun i e => (by cases e)⟩)
  · walk_at "pv"
    rw [hl]
    refine tk_ hw1 (by omega) (Bd.nat (Nat.lt_of_le_of_lt l2 (by decide))) rfl rfl rfl rfl rfl rfl fun j w2 hj hw2 => ?_
    have hj : j < ns.length := by omega
    obtain ⟨x, hxj⟩ : ∃ x, ns[j]? = some x := ⟨_, List.getElem?_eq_getElem hj⟩
    have xb := hn x (List.mem_of_getElem? hxj)
    walk_at "pv"
    rw [show cutD (ns.map D.int) none (some (j : Int)) = (ns.take j).map D.int from cut_take _ j]
    refine ⟨_, ixT j (by rw [List.getElem?_map, hxj]; rfl), ?_⟩
    walk_at "pv"
    refine callK_n ((w2, x) : Hw × Int) rfl rfl rfl rfl (fun _ => rfl) (fun z => (by cases z)) ⟨hw2, xb⟩ ?_
    rintro ⟨d, w3⟩ ⟨⟨hd, _⟩, hw3⟩
    replace hd : ElOk d := hd
    replace hw3 : HwOk w3 := hw3
    walk_at "pv"
    refine ⟨by rw [List.length_map, List.length_take]; show min j _ + 1 ≤ LIM; exact Nat.le_trans (by omega : _ ≤ 2000) (by decide), ?_⟩
    walk_at "pv"
    rw [show ((j : Nat) : Int) + 1 = ((j + 1 : Nat) : Int) by omega, show cutD (ns.map D.int) (some ((j + 1 : Nat) : Int)) none = (ns.drop (j + 1)).map D.int from cutd_drop _ (j + 1)]
    refine ⟨by rw [List.length_append, List.length_map, List.length_map, List.length_take, List.length_drop]; show min j _ + 1 + _ ≤ LIM; exact Nat.le_trans (by omega : _ ≤ 2000) (by decide), ?_⟩
    walk_at "pv"
    refine ⟨(_, w3), ⟨ct_tup (by simp only [List.length_append, List.length_map, List.length_take, List.length_drop, List.length_singleton]; omega) fun y hy => ?_, hw3⟩, rfl, rfl, rfl⟩
    rcases List.mem_append.mp hy with hy | hy
    · rcases List.mem_append.mp hy with hy | hy
      · obtain ⟨z, hz, rfl⟩ := List.mem_map.mp hy
        exact el_int (hn z (List.mem_of_mem_take hz))
      · rw [List.mem_singleton.mp hy]; exact hd
    · obtain ⟨z, hz, rfl⟩ := List.mem_map.mp hy
      exact el_int (hn z (List.mem_of_mem_drop hz))

end SD

namespace SD
open PySem L2 PV
theorem k_law_parts_of : Kp_law_parts_of sp_law_parts_of := by
  intro r
  refine keeps_n fun p hp => ⟨rfl, ?_⟩
  obtain ⟨L, R⟩ := p
  obtain ⟨⟨l1, lb⟩, r1, rb⟩ : (1 ≤ L ∧ Bd 200 L) ∧ 1 ≤ R ∧ Bd 200 R := hp
  walk_at "pv"
  refine ⟨fun m e => ∃ (a xa ya b xb yb : Int) (y4 : Sl), m = b.toNat ∧ Bz L R a xa ya b xb yb ∧ e = [.val (.int L), .val (.int R), .val (rowsI a xa ya b xb yb), .un, y4, .un], ⟨R.toNat, L, 1, 0, R, 0, 1, _, rfl, Bz.init l1 r1, rfl⟩, ?_⟩
  rintro m e ⟨a, xa, ya, b, xb, yb, y4, em, hB, rfl⟩
  obtain ⟨⟨ab, bb⟩, ⟨xab, yab⟩, xbb, ybb⟩ := hB.bds lb rb
  have b0 := hB.b0
  have a1 := hB.a1
  have tb : Bd 200 (a / b) := ab.ediv
  unfold rowsI
  walk_at "pv"
  refine ifB2 (fun c => ?_) (fun c => ?_)
  · have c := of_decide_eq_true c
    walk_at "pv"
    refine lc_map [((0 : Nat), a - a / b * b), (1, xa - a / b * xb), (2, ya - a / b * yb)] (fun q => .int (0 + (q.1 : Nat))) (fun q => .int q.2) rfl chk_nil (by show 3 ≤ LIM; decide) (fun q hq ky kn kk => ?_) ?_
    · simp only [List.mem_cons, List.mem_nil_iff, or_false] at hq
      rcases hq with rfl | rfl | rfl
      all_goals
        walk_at "pv"
        exact kk
    walk_at "pv"
    have hs := hB.step c
    refine ⟨(a - a / b * b).toNat, ?_, b, xb, yb, _, _, _, _, rfl, hs, rfl⟩
    have m1 := Int.emod_lt_of_pos a c
    have m := Int.emod_add_mul_ediv a b
    rw [Int.mul_comm b] at m
    have := hs.b0
    omega
  · have c := of_decide_eq_false c
    have e0 : b = 0 := by omega
    subst e0
    walk_at "pv"
    exact ⟨⟨a, L / a, R / a, xa, ya⟩, hB.fin lb rb l1 r1, rfl, rfl, rfl⟩
theorem k_law_is_integer : Kp_law_is_integer sp_law_is_integer := by
  intro r
  refine keeps_d fun d hd => ⟨rfl, ?_⟩
  replace hd : plnD d = true := hd
  cases d <;> first
    | exact absurd (show false = true from hd) Bool.false_ne_true
    | (walk_at "pv"; exact ⟨rfl, rfl, rfl⟩)
theorem k_law_judged : Kp_law_judged sp_law_judged := by
  intro r
  refine keeps_d fun x hx => ⟨rfl, ?_⟩
  obtain ⟨⟨⟨ts, i, j⟩, k⟩, d⟩ := x
  obtain ⟨h, ⟨hp, hit⟩, hb, kb⟩ : Two ts i j ∧ CtOk d ∧ (∀ t ∈ ts, Bd 1000 t.begin) ∧ Bd 1000 k := hx
  have ht := h.ok
  have hi := h.hi
  have hj := h.hj
  obtain ⟨⟨si1, si2⟩, sj1, sj2⟩ := h.sts
  have bi := hb _ (getT_mem hi)
  have bj := hb _ (getT_mem hj)
  have nt : itT d = none → shL ts i j k d = false := fun e => Bool.eq_false_iff.mpr fun z => by
    obtain ⟨g, u, v, x, y, e2⟩ := shL_ex z
    rw [e] at e2; cases e2
  have tups : ∀ xs, itT d = some xs → d = .tup xs ∨ d = .tpn xs := fun xs e => by
    cases d <;> first
      | exact .inl (congrArg D.tup (Option.some.inj e))
      | exact .inr (congrArg D.tpn (Option.some.inj e))
      | exact absurd e (by simp [itT])
  cases hxs : itT d with
  | none =>
    have e := nt hxs
    cases d <;> first
      | exact absurd (show false = true from hp) Bool.false_ne_true
      | (simp [itT] at hxs; done)
      | (walk_at "pv"; exact ⟨rfl, congrArg D.bl e.symm, rfl⟩)
  | some xs =>
    obtain ⟨xl0, hxy⟩ := hit xs hxs
    have lx : xs.length ≤ LIM := Nat.le_trans xl0 (by decide)
    rcases tups xs hxs with rfl | rfl
    all_goals
      walk_at "pv"
      refine ifB2 (fun c => ?_) (fun c => ?_)
      · walk_at "pv"
        refine ⟨rfl, congrArg D.bl (Eq.symm (Bool.eq_false_iff.mpr fun z => ?_)), rfl⟩
        obtain ⟨g, u, v, x, y, e⟩ := shL_ex z
        rw [hxs] at e
        rw [Option.some.inj e] at c
        exact absurd (show false = true from c) (by decide)
      have xl : xs.length = 5 := by
        have c : (!decide ((xs.length : Int) = 5)) = false := c
        have : (xs.length : Int) = 5 := by simpa using c
        omega
      walk_at "pv"
      refine lc_map xs (fun d => d) (fun d => .bl (isFig d)) (by simp) (chk_one rfl) lx (fun d hd ky kn kk => ?_) ?_
      · walk_at "pv"
        refine callK_d d rfl rfl rfl rfl rfl (hxy d hd).1 ?_
        walk_at "pv"
        exact kk
      walk_at "wgo"
      rw [boolsD_map]
      walk_at "wgo"
      rw [show (xs.map isFig).all id = xs.all isFig by rw [List.all_map]; rfl]
      refine ifB2 (fun c2 => ?_) (fun c2 => ?_)
      · walk_at "pv"
        refine ⟨rfl, congrArg D.bl (Eq.symm (Bool.eq_false_iff.mpr fun z => ?_)), rfl⟩
        obtain ⟨g, u, v, x, y, e⟩ := shL_ex z
        have c2 : xs.all isFig = false := by simpa using c2
        rw [hxs] at e
        rw [Option.some.inj e] at c2
        exact absurd (show true = false from c2) (by decide)
      have c2 : xs.all isFig = true := by simpa using c2
      obtain ⟨ns, rfl, nb⟩ : ∃ ns : List Int, xs = ns.map .int ∧ ∀ n ∈ ns, Bd 3900 n := ints_fig c2 hxy
      rw [List.length_map] at xl
      obtain ⟨g, u, v, a, b, rfl⟩ := two_len xl rfl
      have gb := nb g (by simp)
      have ub := nb u (by simp)
      have vb := nb v (by simp)
      have ab := nb a (by simp)
      have bb := nb b (by simp)
      have eL := shL_at (ts := ts) (i := i) (j := j) (k := k) hxs
      have no : ¬ ((1 ≤ g ∧ 1 ≤ u ∧ 1 ≤ v) ∧ ((getT ts i).stride = g * u ∧ (getT ts j).stride = g * v) ∧ u * a + v * b = 1 ∧ 0 ≤ k ∧ ((getT ts j).begin - (getT ts i).begin < (k - u + 1) * g ∨ ((getT ts j).begin - (getT ts i).begin = (k - u + 1) * g ∧ j < i))) → false = shL ts i j k _ := fun z => by rw [eL]; exact (decide_eq_false z).symm
      walk_at "pv"
      refine ifB2 (fun q => ?_) (fun q => ?_)
      · have q := of_decide_eq_true q
        walk_at "pv"
        exact ⟨rfl, congrArg D.bl (no (by omega)), rfl⟩
      have q1 := of_decide_eq_false q
      walk_at "pv"
      refine ifB2 (fun q => ?_) (fun q => ?_)
      · have q := of_decide_eq_true q
        walk_at "pv"
        exact ⟨rfl, congrArg D.bl (no (by omega)), rfl⟩
      have q2 := of_decide_eq_false q
      walk_at "pv"
      refine ifB2 (fun q => ?_) (fun q => ?_)
      · have q := of_decide_eq_true q
        walk_at "pv"
        exact ⟨rfl, congrArg D.bl (no (by omega)), rfl⟩
      have q3 := of_decide_eq_false q
      walk_at "pv"
      rw [eqv_two]
      refine ifB2 (fun q => ?_) (fun q => ?_)
      · have q : ¬ (g * u = (getT ts i).stride ∧ g * v = (getT ts j).stride) := fun y => by simp [y.1, y.2] at q
        walk_at "pv"
        exact ⟨rfl, congrArg D.bl (no fun z => q ⟨z.2.1.1.symm, z.2.1.2.symm⟩), rfl⟩
      obtain ⟨q4, q5⟩ : g * u = (getT ts i).stride ∧ g * v = (getT ts j).stride := by simpa using q
      walk_at "pv"
      refine ifB2 (fun q => ?_) (fun q => ?_)
      · have q : ¬ u * a + v * b = 1 := by
          have q : (!decide (u * a + v * b = 1)) = true := q
          simpa using q
        walk_at "pv"
        exact ⟨rfl, congrArg D.bl (no fun z => q z.2.2.1), rfl⟩
      have q6 : u * a + v * b = 1 := by
        have q : (!decide (u * a + v * b = 1)) = false := q
        simpa using q
      walk_at "pv"
      refine ifB2 (fun q => ?_) (fun q => ?_)
      · have q := of_decide_eq_true q
        walk_at "pv"
        exact ⟨rfl, congrArg D.bl (no (by omega)), rfl⟩
      have q7 := of_decide_eq_false q
      have em : g * (k - u + 1) = (k - u + 1) * g := Int.mul_comm _ _
      walk_at "pv"
      refine ifB2 (fun q => ?_) (fun q => ?_)
      · have q8 : (getT ts j).begin - (getT ts i).begin - g * (k - u + 1) < 0 := of_decide_eq_true q
        walk_at "pv"
        refine ⟨rfl, congrArg D.bl ?_, rfl⟩
        rw [eL]
        exact (decide_eq_true ⟨⟨by omega, by omega, by omega⟩, ⟨q4.symm, q5.symm⟩, q6, by omega, .inl (by omega)⟩).symm
      have q8 : ¬ (getT ts j).begin - (getT ts i).begin - g * (k - u + 1) < 0 := of_decide_eq_false q
      walk_at "pv"
      refine ifB2 (fun q => ?_) (fun q => ?_)
      · have q9 : (getT ts j).begin - (getT ts i).begin - g * (k - u + 1) = 0 := of_decide_eq_true q
        walk_at "pv"
        refine ⟨rfl, congrArg D.bl ?_, rfl⟩
        rw [eL]
        exact decide_eq_decide.mpr ⟨fun z => ⟨⟨by omega, by omega, by omega⟩, ⟨q4.symm, q5.symm⟩, q6, by omega, .inr ⟨by omega, by omega⟩⟩, fun z => (z.2.2.2.2.elim (fun y => absurd y (by omega)) fun y => by omega)⟩
      · have q9 : ¬ (getT ts j).begin - (getT ts i).begin - g * (k - u + 1) = 0 := of_decide_eq_false q
        walk_at "pv"
        exact ⟨rfl, congrArg D.bl (no fun z => z.2.2.2.2.elim (fun y => by omega) fun y => by omega), rfl⟩

end SD

namespace SD
open PySem L2 PV
theorem k_law_changed : Kp_law_changed sp_law_changed := by
  intro r
  refine keeps_n fun p hp => ⟨rfl, ?_⟩
  obtain ⟨w, g, u, v, x, y⟩ := p
  obtain ⟨hw, gb, ub, vb, xb, yb⟩ : HwOk w ∧ ShB ⟨g, u, v, x, y⟩ := hp
  replace gb : Bd 200 g := gb
  replace ub : Bd 200 u := ub
  replace vb : Bd 200 v := vb
  replace xb : Bd 200 x := xb
  replace yb : Bd 200 y := yb
  have hg : Bd 200 (g / 2) := gb.ediv
  have B2 : Bd 2 2 := by unfold Bd; decide
  have B7 : Bd 3 7 := by unfold Bd; decide
  have B1 : Bd 1 1 := by unfold Bd; decide
  have mo : ∀ {k : Nat} {n : Int}, Bd k n → k ≤ 3900 → Bd 3900 n := fun h e => h.mono e
  have ctS : CtOk (.tup [.int g, .int u, .int v, .int x, .int y]) := ct5 (mo gb (by decide)) (mo ub (by decide)) (mo vb (by decide)) (mo xb (by decide)) (mo yb (by decide))
  show wpSs _ _ _ _ (startE _ _ [hwD w, .tup [.int g, .int u, .int v, .int x, .int y]])
  have nsb : ∀ n ∈ [g, u, v, x, y], Bd 3900 n := fun n hn => by
    simp only [List.mem_cons, List.mem_nil_iff, or_false] at hn
    rcases hn with rfl | rfl | rfl | rfl | rfl <;> exact mo (by assumption) (by decide)
  walk_at "pv"
  refine ifB2 (fun c => ?_) (fun c => ?_)
  all_goals
    walk_at "pv"
    refine callK_n ((w, [g, u, v, x, y]) : Hw × List Int) rfl rfl rfl rfl (fun _ => rfl) (fun z => (by cases z)) ⟨hw, ⟨Nat.le_of_ble_eq_true rfl, Nat.le_of_ble_eq_true rfl⟩, nsb⟩ ?_
    rintro ⟨d, w1⟩ ⟨hd, hw1⟩
    replace hd : CtOk d := hd
    replace hw1 : HwOk w1 := hw1
    walk_at "pv"
    refine pull_ _ hw1 ?_ ?_ rfl rfl rfl rfl rfl rfl fun e w2 he hw2 => ?_
    · exact Nat.le_of_ble_eq_true rfl
    · exact Nat.le_of_ble_eq_true rfl
    walk_at "pv"
    refine ⟨(e, w2), ⟨?_, hw2⟩, rfl, rfl, rfl⟩
    simp only [List.mem_cons, List.mem_append, List.mem_nil_iff, or_false] at he
    repeat' (refine Or.elim he (fun he => ?_) (fun he => ?_))
    all_goals
      subst he
      first
        | exact hd
        | exact ct_no rfl rfl
        | (refine ct_tup (Nat.le_of_ble_eq_true rfl) fun z hz => ?_
           simp only [List.mem_cons, List.mem_append, List.mem_nil_iff, or_false] at hz
           repeat' (refine Or.elim hz (fun hz => ?_) (fun hz => ?_))
           all_goals (subst hz; exact el_int (mo (by walk_at "bd") (by decide))))
        | (refine show CtOk (.tup [.int g, .int u, .int v, .int x]) from ct_tup (Nat.le_of_ble_eq_true rfl) fun z hz => ?_
           simp only [List.mem_cons, List.mem_nil_iff, or_false] at hz
           repeat' (refine Or.elim hz (fun hz => ?_) (fun hz => ?_))
           all_goals (subst hz; exact el_int (mo (by walk_at "bd") (by decide))))
theorem k_law_all_right : Kp_law_all_right sp_law_all_right := by
  intro r
  refine keeps_n fun w hw => ⟨rfl, ?_⟩
  replace hw : HwOk w := hw
  have e29 : (10 : Int) ^ Int.toNat 29 = 100000000000000000000000000000 := by decide
  have e40 : (10 : Int) ^ Int.toNat 40 = 10000000000000000000000000000000000000000 := by decide
  walk_at "pv"
  rw [e29]
  refine pull_ [.int 1, .int 1, .int 3, .int (100000000000000000000000000000 + 1)] hw (by decide) (by decide) rfl rfl rfl rfl rfl rfl fun d w1 hd hw1 => ?_
  obtain ⟨f, rfl, f1, f2⟩ : ∃ f : Int, d = .int f ∧ 1 ≤ f ∧ f < 2 ^ 100 := by
    rcases mem4 hd with rfl | rfl | rfl | rfl <;> exact ⟨_, rfl, by decide, by decide⟩
  have fb : Bd 100 f := Bd.of_lt (by omega) f2
  walk_at "pv"
  refine callK_n ((w1, 3) : Hw × Nat) rfl rfl rfl rfl (fun _ => rfl) (fun z => (by cases z)) ⟨hw1, (by decide : 1 ≤ 3), (by decide : 3 ≤ 8)⟩ ?_
  rintro ⟨ts, w2⟩ ⟨hc, hw2⟩
  replace hc : CrOk 3 ts := hc
  replace hw2 : HwOk w2 := hw2
  have few3 := hc.few
  walk_at "pv"
  refine tk_ hw2 (by decide) ((Bd.lit rfl : Bd 64 6).mono (by decide)) rfl rfl rfl rfl rfl rfl fun s w3 hs hw3 => ?_
  walk_at "pv"
  refine tk_ hw3 (by decide) ((Bd.lit rfl : Bd 64 9).mono (by decide)) rfl rfl rfl rfl rfl rfl fun b w4 hb hw4 => ?_
  walk_at "pv"
  refine ⟨by rw [List.length_map]; show ts.length + 1 ≤ LIM; exact Nat.le_trans (by omega : _ ≤ 4) (by decide), ?_⟩
  rw [show ts.map rowD ++ [D.lst [.str "zzzz", .int (1 + ((s : Nat) : Int)), .int ((b : Nat) : Int)]] = (ts ++ [zzT (1 + (s : Nat)) (b : Nat)]).map rowD by rw [List.map_append]; rfl]
  have hF := zz_fr hc (s := 1 + (s : Nat)) (b := (b : Nat)) (f := f) (by omega) (by omega) (by omega) (by omega) f1 f2
  have hsm : ∀ t ∈ ts ++ [zzT (1 + (s : Nat)) (b : Nat)], Bd 10 t.stride ∧ Bd 10 t.begin := fun t ht => by
    rcases List.mem_append.mp ht with m | m
    · exact ⟨Bd.of_lt (by have := (hc.ok.ok t m).st; omega) (Int.lt_of_le_of_lt (hc.st t m) (by decide)), Bd.of_lt (hc.ok.ok t m).bg (Int.lt_of_le_of_lt (hc.bg t m) (by decide))⟩
    · rw [List.mem_singleton.mp m]
      exact ⟨Bd.of_lt (show 0 ≤ 1 + ((s : Nat) : Int) by omega) (show 1 + ((s : Nat) : Int) < 2 ^ 10 by omega), Bd.of_lt (show 0 ≤ ((b : Nat) : Int) by omega) (show ((b : Nat) : Int) < 2 ^ 10 by omega)⟩
  have l4 : (ts ++ [zzT (1 + (s : Nat)) (b : Nat)]).length ≤ LIM := by rw [List.length_append]; exact Nat.le_trans (show ts.length + 1 ≤ 4 by omega) (by decide)
  have ul : (fT f (ts ++ [zzT (1 + (s : Nat)) (b : Nat)])).length = ts.length + 1 := by unfold fT; rw [List.length_map, List.length_append]; rfl
  have one := hc.ok.one
  generalize ts ++ [zzT (1 + (s : Nat)) (b : Nat)] = vs at *
  walk_at "pv"
  refine lc_map vs rowD (fun t => rowD ⟨t.name, t.stride * f, t.begin * f⟩) rfl (chk_one rfl) l4 (fun t hm ky kn k => ?_) ?_
  · obtain ⟨sb, gb⟩ := hsm t hm
    walk_at "pv"
    exact k
  rw [show (vs.map fun t => rowD ⟨t.name, t.stride * f, t.begin * f⟩) = (fT f vs).map rowD by unfold fT; rw [List.map_map]; rfl]
  generalize fT f vs = us at *
  have ht := hF.ok
  have hb' : ∀ t ∈ us, Bd 1000 t.begin := fun t h => (hF.gb t h).mono (by decide)
  walk_at "pv"
  refine callK_d us rfl rfl rfl rfl rfl ⟨ht, hb'⟩ ?_
  walk_at "pv"
  refine callK_d us rfl rfl rfl rfl rfl ht ?_
  walk_at "pv"
  refine lc_map [runT us, rndT us] (fun n => .int n) (fun n => .int n) rfl (chk_one rfl) (by show 2 ≤ LIM; decide) (fun n hn ky kn k => ?_) ?_
  · walk_at "pv"
    exact k
  walk_at "wgo"
  refine ⟨Nat.lt_of_lt_of_le (by decide : 0 < 2) (Nat.le_of_ble_eq_true rfl), fun m hm hmx => ?_⟩
  have m1 := hmx (runT us) (by simp)
  have m2 := hmx (rndT us) (by simp)
  walk_at "pv"
  generalize hsml : decide (m < 300) = sm
  have few := ht.few
  have lr : (us.map rowD).length = us.length := List.length_map _
  refine for_map (List.range 6) (fun i => .int (0 + (i : Nat))) rfl (fun _ e => ∃ (w' : Hw) (y3 y6 y7 y8 y9 y10 y11 y12 y16 y17 : Sl), HwOk w' ∧ e = [.own (hwD w'), .val (.int f), .val (.lst (us.map rowD)), y3, .val (.str (textT us)), .val (.bl sm), y6, y7, y8, y9, y10, y11, y12, .un, .un, .un, y16, y17]) ⟨w4, _, _, _, _, _, _, _, _, _, _, hw4, rfl⟩ (fun pre i post e hx hP k kk => ?_) (fun e hP => ?_)
  · obtain ⟨w', y3, y6, y7, y8, y9, y10, y11, y12, y16, y17, hw', rfl⟩ := hP
    walk_at "pv"
    rw [lr]
    refine tk_ hw' (by omega) (Bd.nat (Nat.lt_of_le_of_lt few (by decide +kernel))) rfl rfl rfl rfl rfl rfl fun lo w5 hlo hw5 => ?_
    have hlo : lo < us.length := by omega
    walk_at "pv"
    rw [lr]
    refine tk_ (n := ((us.length : Nat) : Int) - 1) hw5 (by omega) ((show ((us.length : Nat) : Int) - 1 = ((us.length - 1 : Nat) : Int) by omega) ▸ Bd.nat (Nat.lt_of_le_of_lt (show us.length - 1 ≤ 8 by omega) (by decide +kernel))) rfl rfl rfl rfl rfl rfl fun a w6 ha hw6 => ?_
    walk_at "pv"
    rw [lr]
    obtain ⟨hi, hie⟩ := Int.eq_ofNat_of_zero_le (Int.emod_nonneg (((lo : Nat) : Int) + 1 + ((a : Nat) : Int)) (show ((us.length : Nat) : Int) ≠ 0 by omega))
    have hil := Int.emod_lt_of_pos (((lo : Nat) : Int) + 1 + ((a : Nat) : Int)) (show 0 < ((us.length : Nat) : Int) by omega)
    rw [hie] at hil
    have hih : hi < us.length := by omega
    have hne : lo ≠ hi := by
      by_cases c : ((lo : Nat) : Int) + 1 + ((a : Nat) : Int) < ((us.length : Nat) : Int)
      · rw [Int.emod_eq_of_lt (by omega) c] at hie
        omega
      · have : ((lo : Nat) : Int) + 1 + ((a : Nat) : Int) = (((lo : Nat) : Int) + 1 + ((a : Nat) : Int) - ((us.length : Nat) : Int)) + ((us.length : Nat) : Int) := by omega
        rw [this, Int.add_emod_right, Int.emod_eq_of_lt (by omega) (by omega)] at hie
        omega
    have two : Two us lo hi := ⟨ht, hlo, hih, hne⟩
    have sL : (1 ≤ (getT us lo).stride ∧ Bd 200 (getT us lo).stride) ∧ 1 ≤ (getT us hi).stride ∧ Bd 200 (getT us hi).stride := ⟨⟨ht.sts _ (getT_mem hlo), hF.sb _ (getT_mem hlo)⟩, ht.sts _ (getT_mem hih), hF.sb _ (getT_mem hih)⟩
    rw [hie]
    walk_at "pv"
    refine callK_n ((getT us lo).stride, (getT us hi).stride) rfl rfl rfl rfl (fun _ => rfl) (fun z => (by cases z)) sL ?_
    rintro z hz
    replace hz : ShOk (getT us lo).stride (getT us hi).stride z := hz
    have hzb := hz.b
    obtain ⟨g, u, v, x, y⟩ := z
    unfold shsD
    have ub : Bd 200 u := hzb.ub
    have lb := leadT_bd two hF
    have ld0 := lead_nn (ts := us) (i := lo) (j := hi)
    have ldk : ∀ {k : Int} {d : D}, Bd 1000 k → CtOk d → LdOk us lo hi k d := fun kb ct => ⟨ht, hb', hlo, hih, kb, ct⟩
    have mo : ∀ {k : Nat} {n : Int}, Bd k n → k ≤ 3900 → Bd 3900 n := fun h e => h.mono e
    have ctS : CtOk (.tup [.int g, .int u, .int v, .int x, .int y]) := ct5 (mo hzb.gb (by decide)) (mo hzb.ub (by decide)) (mo hzb.vb (by decide)) (mo hzb.xb (by decide)) (mo hzb.yb (by decide))
    have shl := fun k => sh_lead two hz k
    unfold shsD at shl
    have shl : ∀ k, ldB us lo hi k (.tup [.int g, .int u, .int v, .int x, .int y]) = decide (leadT us lo hi ≤ k) := shl
    have inner : sm = true → runT us + rndT us ≤ 1000000 := fun c => by
      rw [c] at hsml
      have := of_decide_eq_true hsml
      omega
    walk_at "pv"
    refine ifB2 (fun c => ?_) (fun c => ?_)
    · have sz := inner c
      subst c
      walk_at "pv"
      refine callK_d ((us, lo, hi) : List Tk × Nat × Nat) rfl rfl rfl rfl rfl ⟨two, sz⟩ ?_
      walk_at "pv"
      refine callK_d (((us, lo, hi), leadT us lo hi), .tup [.int g, .int u, .int v, .int x, .int y]) rfl rfl rfl rfl rfl (ldk (lb.mono (by decide)) ctS) ?_
      rw [shl]
      walk_at "pv"
      refine ifB2 (fun c => absurd c (by simp)) (fun _ => ?_)
      generalize hT : leadT us lo hi = T at *
      walk_at "pv"
      refine ifB2 (fun c => ?_) (fun c => ?_)
      · walk_at "pv"
        refine callK_d (((us, lo, hi), T - 1), .tup [.int g, .int u, .int v, .int x, .int y]) rfl rfl rfl rfl rfl (ldk ((lb.sub (Bd.one (by decide))).mono (by decide)) ctS) ?_
        rw [shl]
        walk_at "pv"
        refine ifB2 (fun c => absurd (of_decide_eq_true c) (by show ¬ T ≤ T - 1; omega)) (fun _ => ?_)
        walk_at "pv"
        have hTT : true = true → T = leadT us lo hi := fun _ => hT.symm
        have hTb : Bd 210 T := lb
        refine for_map (List.range 5) (fun i => .int (0 + (i : Nat))) rfl (fun _ e => ∃ (w' : Hw) (y11 y12 y16 y17 : Sl), HwOk w' ∧ e = [.own (hwD w'), .val (.int f), .val (.lst (us.map rowD)), .val (.int (0 + (i : Nat))), .val (.str (textT us)), .val (.bl true), .val (.int (lo : Nat)), .val (.int (hi : Nat)), .val (.tup [.int g, .int u, .int v, .int x, .int y]), .val (.int T), .val (.tup [.str "lead", .str (textT us), .str (getT us lo).name, .str (getT us hi).name]), y11, y12, .un, .un, .un, y16, y17]) ⟨w6, _, _, _, _, hw6, rfl⟩ (fun pre2 i2 post2 e2 hx2 hP2 k2 kk2 => ?_) (fun e2 hP2 => ?_)
        · obtain ⟨w7, y11, y12, y16, y17, hw7, rfl⟩ := hP2
          walk_at "pv"
          refine pull_ [.int 0, .int 0, .int 1, .int (-1), .int (-2), .int 5] hw7 (Nat.le_of_ble_eq_true rfl) (Nat.le_of_ble_eq_true rfl) rfl rfl rfl rfl rfl rfl fun d8 w8 hd8 hw8 => ?_
          obtain ⟨q, rfl, qb⟩ : ∃ q : Int, d8 = .int q ∧ Bd 64 q := by
            simp only [List.mem_cons, List.mem_nil_iff, or_false] at hd8
            rcases hd8 with rfl | rfl | rfl | rfl | rfl | rfl <;> exact ⟨_, rfl, Bd.lit rfl⟩
          walk_at "pv"
          refine callK_n ((w8, ⟨g, u, v, x, y⟩) : Hw × Sh) rfl rfl rfl rfl (fun _ => rfl) (fun z => (by cases z)) ⟨hw8, hzb⟩ ?_
          rintro ⟨d, w9⟩ ⟨hdc, hw9⟩
          replace hdc : CtOk d := hdc
          replace hw9 : HwOk w9 := hw9
          have kb : Bd 1000 (T + q) := (hTb.add (qb.mono (by decide : 64 ≤ 210))).mono (by decide)
          walk_at "pv"
          refine callK_d (((us, lo, hi), T + q), d) rfl rfl rfl rfl rfl ⟨two, hdc, hb', kb⟩ ?_
          walk_at "pv"
          refine callK_d (((us, lo, hi), T + q), d) rfl rfl rfl rfl rfl (ldk kb hdc) ?_
          have eb : ldB us lo hi (T + q) d = shL us lo hi (T + q) d := if_neg hne
          walk_at "pv"
          show PV.ifB (!eqS (.str (PyData.bool (ldB us lo hi (T + q) d)).shown) (.str (PyData.bool (shL us lo hi (T + q) d)).shown)) _ _
          rw [eb, eqS_same]
          walk_at "pv"
          refine ifB2 (fun c3 => ?_) (fun c3 => ?_)
          · have c3 : shL us lo hi (T + q) d = true := c3
            have le3 := shL_le two c3
            walk_at "pv"
            first
              | exact kk2 _ ⟨w9, _, _, _, _, hw9, rfl⟩
              | (refine ifB2 (fun c4 => absurd (of_decide_eq_true c4) (by have := hTT rfl; omega)) (fun _ => ?_)
                 walk_at "pv"
                 exact kk2 _ ⟨w9, _, _, _, _, hw9, rfl⟩)
          · walk_at "pv"
            exact kk2 _ ⟨w9, _, _, _, _, hw9, rfl⟩
        · obtain ⟨w7, y11, y12, y16, y17, hw7, rfl⟩ := hP2
          walk_at "pv"
          refine callK_d (((us, lo, lo), 10000000000000000000000000000000000000000), .tup [.int g, .int u, .int v, .int x, .int y]) rfl rfl rfl rfl rfl ⟨ht, hb', hlo, hlo, (show Bd 200 10000000000000000000000000000000000000000 by unfold Bd; decide).mono (by decide), ctS⟩ ?_
          rw [show ldB us lo lo 10000000000000000000000000000000000000000 (.tup [.int g, .int u, .int v, .int x, .int y]) = false from if_pos rfl]
          walk_at "pv"
          exact kk _ ⟨w7, _, _, _, _, _, _, _, _, _, _, hw7, rfl⟩
      · walk_at "pv"
        have hTT : true = true → T = leadT us lo hi := fun _ => hT.symm
        have hTb : Bd 210 T := lb
        refine for_map (List.range 5) (fun i => .int (0 + (i : Nat))) rfl (fun _ e => ∃ (w' : Hw) (y11 y12 y16 y17 : Sl), HwOk w' ∧ e = [.own (hwD w'), .val (.int f), .val (.lst (us.map rowD)), .val (.int (0 + (i : Nat))), .val (.str (textT us)), .val (.bl true), .val (.int (lo : Nat)), .val (.int (hi : Nat)), .val (.tup [.int g, .int u, .int v, .int x, .int y]), .val (.int T), .val (.tup [.str "lead", .str (textT us), .str (getT us lo).name, .str (getT us hi).name]), y11, y12, .un, .un, .un, y16, y17]) ⟨w6, _, _, _, _, hw6, rfl⟩ (fun pre2 i2 post2 e2 hx2 hP2 k2 kk2 => ?_) (fun e2 hP2 => ?_)
        · obtain ⟨w7, y11, y12, y16, y17, hw7, rfl⟩ := hP2
          walk_at "pv"
          refine pull_ [.int 0, .int 0, .int 1, .int (-1), .int (-2), .int 5] hw7 (Nat.le_of_ble_eq_true rfl) (Nat.le_of_ble_eq_true rfl) rfl rfl rfl rfl rfl rfl fun d8 w8 hd8 hw8 => ?_
          obtain ⟨q, rfl, qb⟩ : ∃ q : Int, d8 = .int q ∧ Bd 64 q := by
            simp only [List.mem_cons, List.mem_nil_iff, or_false] at hd8
            rcases hd8 with rfl | rfl | rfl | rfl | rfl | rfl <;> exact ⟨_, rfl, Bd.lit rfl⟩
          walk_at "pv"
          refine callK_n ((w8, ⟨g, u, v, x, y⟩) : Hw × Sh) rfl rfl rfl rfl (fun _ => rfl) (fun z => (by cases z)) ⟨hw8, hzb⟩ ?_
          rintro ⟨d, w9⟩ ⟨hdc, hw9⟩
          replace hdc : CtOk d := hdc
          replace hw9 : HwOk w9 := hw9
          have kb : Bd 1000 (T + q) := (hTb.add (qb.mono (by decide : 64 ≤ 210))).mono (by decide)
          walk_at "pv"
          refine callK_d (((us, lo, hi), T + q), d) rfl rfl rfl rfl rfl ⟨two, hdc, hb', kb⟩ ?_
          walk_at "pv"
          refine callK_d (((us, lo, hi), T + q), d) rfl rfl rfl rfl rfl (ldk kb hdc) ?_
          have eb : ldB us lo hi (T + q) d = shL us lo hi (T + q) d := if_neg hne
          walk_at "pv"
          show PV.ifB (!eqS (.str (PyData.bool (ldB us lo hi (T + q) d)).shown) (.str (PyData.bool (shL us lo hi (T + q) d)).shown)) _ _
          rw [eb, eqS_same]
          walk_at "pv"
          refine ifB2 (fun c3 => ?_) (fun c3 => ?_)
          · have c3 : shL us lo hi (T + q) d = true := c3
            have le3 := shL_le two c3
            walk_at "pv"
            first
              | exact kk2 _ ⟨w9, _, _, _, _, hw9, rfl⟩
              | (refine ifB2 (fun c4 => absurd (of_decide_eq_true c4) (by have := hTT rfl; omega)) (fun _ => ?_)
                 walk_at "pv"
                 exact kk2 _ ⟨w9, _, _, _, _, hw9, rfl⟩)
          · walk_at "pv"
            exact kk2 _ ⟨w9, _, _, _, _, hw9, rfl⟩
        · obtain ⟨w7, y11, y12, y16, y17, hw7, rfl⟩ := hP2
          walk_at "pv"
          refine callK_d (((us, lo, lo), 10000000000000000000000000000000000000000), .tup [.int g, .int u, .int v, .int x, .int y]) rfl rfl rfl rfl rfl ⟨ht, hb', hlo, hlo, (show Bd 200 10000000000000000000000000000000000000000 by unfold Bd; decide).mono (by decide), ctS⟩ ?_
          rw [show ldB us lo lo 10000000000000000000000000000000000000000 (.tup [.int g, .int u, .int v, .int x, .int y]) = false from if_pos rfl]
          walk_at "pv"
          exact kk _ ⟨w7, _, _, _, _, _, _, _, _, _, _, hw7, rfl⟩
    · subst c
      generalize hT : leadT us lo hi = T' at *
      generalize hU : u = T at *
      walk_at "pv"
      have hTT : false = true → T = leadT us lo hi := fun z => (by cases z)
      have hTb : Bd 210 T := ub.mono (by decide)
      refine for_map (List.range 5) (fun i => .int (0 + (i : Nat))) rfl (fun _ e => ∃ (w' : Hw) (y11 y12 y16 y17 : Sl), HwOk w' ∧ e = [.own (hwD w'), .val (.int f), .val (.lst (us.map rowD)), .val (.int (0 + (i : Nat))), .val (.str (textT us)), .val (.bl false), .val (.int (lo : Nat)), .val (.int (hi : Nat)), .val (.tup [.int g, .int T, .int v, .int x, .int y]), .val (.int T), .val (.tup [.str "lead", .str (textT us), .str (getT us lo).name, .str (getT us hi).name]), y11, y12, .un, .un, .un, y16, y17]) ⟨w6, _, _, _, _, hw6, rfl⟩ (fun pre2 i2 post2 e2 hx2 hP2 k2 kk2 => ?_) (fun e2 hP2 => ?_)
      · obtain ⟨w7, y11, y12, y16, y17, hw7, rfl⟩ := hP2
        walk_at "pv"
        refine pull_ [.int 0, .int 0, .int 1, .int (-1), .int (-2), .int 5] hw7 (Nat.le_of_ble_eq_true rfl) (Nat.le_of_ble_eq_true rfl) rfl rfl rfl rfl rfl rfl fun d8 w8 hd8 hw8 => ?_
        obtain ⟨q, rfl, qb⟩ : ∃ q : Int, d8 = .int q ∧ Bd 64 q := by
          simp only [List.mem_cons, List.mem_nil_iff, or_false] at hd8
          rcases hd8 with rfl | rfl | rfl | rfl | rfl | rfl <;> exact ⟨_, rfl, Bd.lit rfl⟩
        walk_at "pv"
        refine callK_n ((w8, ⟨g, T, v, x, y⟩) : Hw × Sh) rfl rfl rfl rfl (fun _ => rfl) (fun z => (by cases z)) ⟨hw8, hzb⟩ ?_
        rintro ⟨d, w9⟩ ⟨hdc, hw9⟩
        replace hdc : CtOk d := hdc
        replace hw9 : HwOk w9 := hw9
        have kb : Bd 1000 (T + q) := (hTb.add (qb.mono (by decide : 64 ≤ 210))).mono (by decide)
        walk_at "pv"
        refine callK_d (((us, lo, hi), T + q), d) rfl rfl rfl rfl rfl ⟨two, hdc, hb', kb⟩ ?_
        walk_at "pv"
        refine callK_d (((us, lo, hi), T + q), d) rfl rfl rfl rfl rfl (ldk kb hdc) ?_
        have eb : ldB us lo hi (T + q) d = shL us lo hi (T + q) d := if_neg hne
        walk_at "pv"
        show PV.ifB (!eqS (.str (PyData.bool (ldB us lo hi (T + q) d)).shown) (.str (PyData.bool (shL us lo hi (T + q) d)).shown)) _ _
        rw [eb, eqS_same]
        walk_at "pv"
        refine ifB2 (fun c3 => ?_) (fun c3 => ?_)
        · have c3 : shL us lo hi (T + q) d = true := c3
          have le3 := shL_le two c3
          walk_at "pv"
          first
            | exact kk2 _ ⟨w9, _, _, _, _, hw9, rfl⟩
            | (refine ifB2 (fun c4 => absurd (of_decide_eq_true c4) (by have := hTT rfl; omega)) (fun _ => ?_)
               walk_at "pv"
               exact kk2 _ ⟨w9, _, _, _, _, hw9, rfl⟩)
        · walk_at "pv"
          exact kk2 _ ⟨w9, _, _, _, _, hw9, rfl⟩
      · obtain ⟨w7, y11, y12, y16, y17, hw7, rfl⟩ := hP2
        walk_at "pv"
        refine callK_d (((us, lo, lo), 10000000000000000000000000000000000000000), .tup [.int g, .int T, .int v, .int x, .int y]) rfl rfl rfl rfl rfl ⟨ht, hb', hlo, hlo, (show Bd 200 10000000000000000000000000000000000000000 by unfold Bd; decide).mono (by decide), ctS⟩ ?_
        rw [show ldB us lo lo 10000000000000000000000000000000000000000 (.tup [.int g, .int T, .int v, .int x, .int y]) = false from if_pos rfl]
        walk_at "pv"
        exact kk _ ⟨w7, _, _, _, _, _, _, _, _, _, _, hw7, rfl⟩
  · obtain ⟨w', y3, y6, y7, y8, y9, y10, y11, y12, y16, y17, hw', rfl⟩ := hP
    walk_at "pv"
    exact ⟨w', hw', rfl, rfl, rfl⟩

end SD

namespace SD
open PySem L2 PV
theorem k_law : Kp_law sp_law := by
  intro r
  refine keeps_d fun ns hn => ⟨rfl, ?_⟩
  obtain ⟨hn, hb⟩ : ns.length ≤ 63 ∧ ∀ z ∈ ns, Builtin.Int.intBits z ≤ 1048576 := hn
  have hbd : ∀ z ∈ ns, Bd 1048577 z := fun z hz => Bd.script (hb z hz)
  walk_at "pv"
  rw [List.length_map]
  refine for_map (List.range (if (if (4 : Int) < (ns.length : Nat) then (4 : Int) else (ns.length : Nat)) > 2 then (if (4 : Int) < (ns.length : Nat) then (4 : Int) else (ns.length : Nat)) else 2).toNat) (fun i => .int (0 + (i : Nat))) rfl (fun _ e => ∃ y, e = [.val (.rol (ns.map .int)), y]) ⟨_, rfl⟩ (fun pre i post e hx hP k kk => ?_) (fun e hP => ?_)
  · obtain ⟨y, rfl⟩ := hP
    have hi6 : i ≤ 63 := by
      have : i ∈ List.range (if (if (4 : Int) < (ns.length : Nat) then (4 : Int) else (ns.length : Nat)) > 2 then (if (4 : Int) < (ns.length : Nat) then (4 : Int) else (ns.length : Nat)) else 2).toNat := by rw [hx]; simp
      have := List.mem_range.mp this
      refine Nat.le_trans (m := 4) ?_ (by decide)
      split at this <;> (try split at this) <;> omega
    walk_at "pv"
    refine callK_n ((ns, i) : List Int × Nat) rfl rfl rfl (show some [D.rol (ns.map .int), D.int (0 + (i : Nat))] = some [D.rol (ns.map .int), D.int (i : Nat)] by rw [Int.zero_add]) (fun _ => rfl) (fun z => (by cases z)) ⟨hn, hi6, hbd⟩ ?_
    rintro w hw
    replace hw : HwOk w := hw
    walk_at "pv"
    refine callK_n w rfl rfl rfl rfl (fun _ => rfl) (fun z => (by cases z)) hw ?_
    rintro w1 _
    walk_at "pv"
    exact kk _ ⟨_, rfl⟩
  · obtain ⟨y, rfl⟩ := hP
    walk_at "pv"
    exact ⟨rfl, rfl, rfl⟩

end SD

namespace SD
open PySem L2 PV
section
variable {P : Program} {w : World} {K : PySem.W.Frag} {mg : Str → Option Value} {base : Heap}
abbrev Sk (K : PySem.W.Frag) : Sg := sgOf K cnames lays
theorem wok (r : Nat) (c : SaysP (wds.map Wd.ok) fns tts w K) (X : K.In base) (Gm : base.Ns mainGlobals mg) (h : ∀ (f : Nat) (i : Fi), fis[f]? = some i → i.lv ≤ r → FT P w K mg base (Sk K) (spsT f) i) : WOk P w K mg base (Sk K) (GT r) :=
  wok_of c (by rfl) X Gm h
abbrev FTs (P : Program) (w : World) (K : PySem.W.Frag) (mg : Str → Option Value) (base : Heap) (r : Nat) : Prop := ∀ (f : Nat) (i : Fi), fis[f]? = some i → i.lv ≤ r → FT P w K mg base (Sk K) (spsT f) i
theorem sc_law_take : FnScope N_law_take P_law_take (defScope S_law_take) := ⟨by rfl, by rfl, by rfl, by decide +kernel, by rfl, by decide +kernel, by decide +kernel⟩
theorem sc_law_pull : FnScope N_law_pull P_law_pull (defScope S_law_pull) := ⟨by rfl, by rfl, by rfl, by decide +kernel, by rfl, by decide +kernel, by decide +kernel⟩
theorem sc_law_fresh_labels : FnScope N_law_fresh_labels P_law_fresh_labels (defScope S_law_fresh_labels) := ⟨by rfl, by rfl, by rfl, by decide +kernel, by rfl, by decide +kernel, by decide +kernel⟩
theorem sc_law_drawn_crew : FnScope N_law_drawn_crew P_law_drawn_crew (defScope S_law_drawn_crew) := ⟨by rfl, by rfl, by rfl, by decide +kernel, by rfl, by decide +kernel, by decide +kernel⟩
theorem sc_law_written : FnScope N_law_written P_law_written (defScope S_law_written) := ⟨by rfl, by rfl, by rfl, by decide +kernel, by rfl, by decide +kernel, by decide +kernel⟩
theorem sc_law_divisor : FnScope N_law_divisor P_law_divisor (defScope S_law_divisor) := ⟨by rfl, by rfl, by rfl, by decide +kernel, by rfl, by decide +kernel, by decide +kernel⟩
theorem sc_law_turns_in : FnScope N_law_turns_in P_law_turns_in (defScope S_law_turns_in) := ⟨by rfl, by rfl, by rfl, by decide +kernel, by rfl, by decide +kernel, by decide +kernel⟩
theorem sc_law_parts_of : FnScope N_law_parts_of P_law_parts_of (defScope S_law_parts_of) := ⟨by rfl, by rfl, by rfl, by decide +kernel, by rfl, by decide +kernel, by decide +kernel⟩
theorem sc_law_dealt : FnScope N_law_dealt P_law_dealt (defScope S_law_dealt) := ⟨by rfl, by rfl, by rfl, by decide +kernel, by rfl, by decide +kernel, by decide +kernel⟩
theorem sc_law_greatest : FnScope N_law_greatest P_law_greatest (defScope S_law_greatest) := ⟨by rfl, by rfl, by rfl, by decide +kernel, by rfl, by decide +kernel, by decide +kernel⟩
theorem sc_is_name : FnScope N_is_name P_is_name (defScope S_is_name) := ⟨by rfl, by rfl, by rfl, by decide +kernel, by rfl, by decide +kernel, by decide +kernel⟩
theorem sc_amount_in : FnScope N_amount_in P_amount_in (defScope S_amount_in) := ⟨by rfl, by rfl, by rfl, by decide +kernel, by rfl, by decide +kernel, by decide +kernel⟩
theorem sc_is_whole : FnScope N_is_whole P_is_whole (defScope S_is_whole) := ⟨by rfl, by rfl, by rfl, by decide +kernel, by rfl, by decide +kernel, by decide +kernel⟩
theorem sc_is_stride : FnScope N_is_stride P_is_stride (defScope S_is_stride) := ⟨by rfl, by rfl, by rfl, by decide +kernel, by rfl, by decide +kernel, by decide +kernel⟩
theorem sc_check_stride : FnScope N_check_stride P_check_stride (defScope S_check_stride) := ⟨by rfl, by rfl, by rfl, by decide +kernel, by rfl, by decide +kernel, by decide +kernel⟩
theorem sc_is_amount : FnScope N_is_amount P_is_amount (defScope S_is_amount) := ⟨by rfl, by rfl, by rfl, by decide +kernel, by rfl, by decide +kernel, by decide +kernel⟩
theorem sc_check_number : FnScope N_check_number P_check_number (defScope S_check_number) := ⟨by rfl, by rfl, by rfl, by decide +kernel, by rfl, by decide +kernel, by decide +kernel⟩
theorem sc_Taker_init : FnScope N_Taker_init P_Taker_init (defScope S_Taker_init) := ⟨by rfl, by rfl, by rfl, by decide +kernel, by rfl, by decide +kernel, by decide +kernel⟩
theorem sc_taker_in : FnScope N_taker_in P_taker_in (defScope S_taker_in) := ⟨by rfl, by rfl, by rfl, by decide +kernel, by rfl, by decide +kernel, by decide +kernel⟩
theorem sc_takers_in : FnScope N_takers_in P_takers_in (defScope S_takers_in) := ⟨by rfl, by rfl, by rfl, by decide +kernel, by rfl, by decide +kernel, by decide +kernel⟩
theorem sc_check_takers : FnScope N_check_takers P_check_takers (defScope S_check_takers) := ⟨by rfl, by rfl, by rfl, by decide +kernel, by rfl, by decide +kernel, by decide +kernel⟩
theorem sc_common_divisor : FnScope N_common_divisor P_common_divisor (defScope S_common_divisor) := ⟨by rfl, by rfl, by rfl, by decide +kernel, by rfl, by decide +kernel, by decide +kernel⟩
theorem sc_common_multiple : FnScope N_common_multiple P_common_multiple (defScope S_common_multiple) := ⟨by rfl, by rfl, by rfl, by decide +kernel, by rfl, by decide +kernel, by decide +kernel⟩
theorem sc_Taker_turns_below : FnScope N_Taker_turns_below P_Taker_turns_below (defScope S_Taker_turns_below) := ⟨by rfl, by rfl, by rfl, by decide +kernel, by rfl, by decide +kernel, by decide +kernel⟩
theorem sc_Deal_all_below : FnScope N_Deal_all_below P_Deal_all_below (defScope S_Deal_all_below) := ⟨by rfl, by rfl, by rfl, by decide +kernel, by rfl, by decide +kernel, by decide +kernel⟩
theorem sc_Deal_init : FnScope N_Deal_init P_Deal_init (defScope S_Deal_init) := ⟨by rfl, by rfl, by rfl, by decide +kernel, by rfl, by decide +kernel, by decide +kernel⟩
theorem sc_Deal_read : FnScope N_Deal_read P_Deal_read (defScope S_Deal_read) := ⟨by rfl, by rfl, by rfl, by decide +kernel, by rfl, by decide +kernel, by decide +kernel⟩
theorem sc_deal_written : FnScope N_deal_written P_deal_written (defScope S_deal_written) := ⟨by rfl, by rfl, by rfl, by decide +kernel, by rfl, by decide +kernel, by decide +kernel⟩
theorem sc_is_figure : FnScope N_is_figure P_is_figure (defScope S_is_figure) := ⟨by rfl, by rfl, by rfl, by decide +kernel, by rfl, by decide +kernel, by decide +kernel⟩
theorem sc_is_count : FnScope N_is_count P_is_count (defScope S_is_count) := ⟨by rfl, by rfl, by rfl, by decide +kernel, by rfl, by decide +kernel, by decide +kernel⟩
theorem sc_is_row_of : FnScope N_is_row_of P_is_row_of (defScope S_is_row_of) := ⟨by rfl, by rfl, by rfl, by decide +kernel, by rfl, by decide +kernel, by decide +kernel⟩
theorem sc_shows_lead : FnScope N_shows_lead P_shows_lead (defScope S_shows_lead) := ⟨by rfl, by rfl, by rfl, by decide +kernel, by rfl, by decide +kernel, by decide +kernel⟩
theorem sc_is_lead_shown : FnScope N_is_lead_shown P_is_lead_shown (defScope S_is_lead_shown) := ⟨by rfl, by rfl, by rfl, by decide +kernel, by rfl, by decide +kernel, by decide +kernel⟩
theorem sc_holds : FnScope N_holds P_holds (defScope S_holds) := ⟨by rfl, by rfl, by rfl, by decide +kernel, by rfl, by decide +kernel, by decide +kernel⟩
theorem sc_law_marred_r1 : FnScope N_law_marred_r1 P_law_marred_r1 (defScope S_law_marred_r1) := ⟨by rfl, by rfl, by rfl, by decide +kernel, by rfl, by decide +kernel, by decide +kernel⟩
theorem sc_law_marred_r2 : FnScope N_law_marred_r2 P_law_marred_r2 (defScope S_law_marred_r2) := ⟨by rfl, by rfl, by rfl, by decide +kernel, by rfl, by decide +kernel, by decide +kernel⟩
theorem sc_law_changed : FnScope N_law_changed P_law_changed (defScope S_law_changed) := ⟨by rfl, by rfl, by rfl, by decide +kernel, by rfl, by decide +kernel, by decide +kernel⟩
theorem sc_law_is_integer : FnScope N_law_is_integer P_law_is_integer (defScope S_law_is_integer) := ⟨by rfl, by rfl, by rfl, by decide +kernel, by rfl, by decide +kernel, by decide +kernel⟩
theorem sc_law_judged : FnScope N_law_judged P_law_judged (defScope S_law_judged) := ⟨by rfl, by rfl, by rfl, by decide +kernel, by rfl, by decide +kernel, by decide +kernel⟩
theorem sc_law_all_right : FnScope N_law_all_right P_law_all_right (defScope S_law_all_right) := ⟨by rfl, by rfl, by rfl, by decide +kernel, by rfl, by decide +kernel, by decide +kernel⟩
theorem sc_law_hatful : FnScope N_law_hatful P_law_hatful (defScope S_law_hatful) := ⟨by rfl, by rfl, by rfl, by decide +kernel, by rfl, by decide +kernel, by decide +kernel⟩
theorem sc_law : FnScope N_law P_law (defScope S_law) := ⟨by rfl, by rfl, by rfl, by decide +kernel, by rfl, by decide +kernel, by decide +kernel⟩
theorem ft_law_take (c : SaysP (wds.map Wd.ok) fns tts w K) (X : K.In base) (Gm : base.Ns mainGlobals mg) (h : FTs P w K mg base 1) : FT P w K mg base (Sk K) (spsT 0) ⟨.fn "_law_take", [true, false], 2⟩ := by
  obtain ⟨fd, F⟩ := c.defn 0 (d := d_law_take) rfl
  have ok : FnB P w K mg base 2 _ fd P_law_take (spOf (Sk K) [true, false] (spsT 0)) := fn_okD F sc_law_take (wok 1 c X Gm h) rfl rfl (c_law_take spsT) (k_law_take 1)
  have b : Binds K fd P_law_take [] := F.bindsN fun _ _ _ _ _ _ us hl => match us, hl with | [_, _], _ => rfl
  exact ⟨_, He.glo_ok X Gm (wd_ok c (d := .glo "_law_take") (by rfl)), F.kp, fn_raw rfl ok b⟩
theorem ft_law_pull (c : SaysP (wds.map Wd.ok) fns tts w K) (X : K.In base) (Gm : base.Ns mainGlobals mg) (h : FTs P w K mg base 3) : FT P w K mg base (Sk K) (spsT 1) ⟨.fn "_law_pull", [true, false], 4⟩ := by
  obtain ⟨fd, F⟩ := c.defn 1 (d := d_law_pull) rfl
  have ok : FnB P w K mg base 4 _ fd P_law_pull (spOf (Sk K) [true, false] (spsT 1)) := fn_okD F sc_law_pull (wok 3 c X Gm h) rfl rfl (c_law_pull spsT) (k_law_pull 3)
  have b : Binds K fd P_law_pull [] := F.bindsN fun _ _ _ _ _ _ us hl => match us, hl with | [_, _], _ => rfl
  exact ⟨_, He.glo_ok X Gm (wd_ok c (d := .glo "_law_pull") (by rfl)), F.kp, fn_raw rfl ok b⟩
theorem ft_law_fresh_labels (c : SaysP (wds.map Wd.ok) fns tts w K) (X : K.In base) (Gm : base.Ns mainGlobals mg) (h : FTs P w K mg base 5) : FT P w K mg base (Sk K) (spsT 2) ⟨.fn "_law_fresh_labels", [true, false], 6⟩ := by
  obtain ⟨fd, F⟩ := c.defn 2 (d := d_law_fresh_labels) rfl
  have ok : FnB P w K mg base 6 _ fd P_law_fresh_labels (spOf (Sk K) [true, false] (spsT 2)) := fn_okD F sc_law_fresh_labels (wok 5 c X Gm h) rfl rfl (c_law_fresh_labels spsT) (k_law_fresh_labels 5)
  have b : Binds K fd P_law_fresh_labels [] := F.bindsN fun _ _ _ _ _ _ us hl => match us, hl with | [_, _], _ => rfl
  exact ⟨_, He.glo_ok X Gm (wd_ok c (d := .glo "_law_fresh_labels") (by rfl)), F.kp, fn_raw rfl ok b⟩
theorem ft_law_drawn_crew (c : SaysP (wds.map Wd.ok) fns tts w K) (X : K.In base) (Gm : base.Ns mainGlobals mg) (h : FTs P w K mg base 7) : FT P w K mg base (Sk K) (spsT 3) ⟨.fn "_law_drawn_crew", [true, false], 8⟩ := by
  obtain ⟨fd, F⟩ := c.defn 3 (d := d_law_drawn_crew) rfl
  have ok : FnB P w K mg base 8 _ fd P_law_drawn_crew (spOf (Sk K) [true, false] (spsT 3)) := fn_okD F sc_law_drawn_crew (wok 7 c X Gm h) rfl rfl (c_law_drawn_crew spsT) (k_law_drawn_crew 7)
  have b : Binds K fd P_law_drawn_crew [] := F.bindsN fun _ _ _ _ _ _ us hl => match us, hl with | [_, _], _ => rfl
  exact ⟨_, He.glo_ok X Gm (wd_ok c (d := .glo "_law_drawn_crew") (by rfl)), F.kp, fn_raw rfl ok b⟩
theorem ft_law_written (c : SaysP (wds.map Wd.ok) fns tts w K) (X : K.In base) (Gm : base.Ns mainGlobals mg) (h : FTs P w K mg base 9) : FT P w K mg base (Sk K) (spsT 4) ⟨.fn "_law_written", [false], 10⟩ := by
  obtain ⟨fd, F⟩ := c.defn 4 (d := d_law_written) rfl
  have ok : FnB P w K mg base 10 _ fd P_law_written (spOf (Sk K) [false] (spsT 4)) := fn_okD F sc_law_written (wok 9 c X Gm h) rfl rfl (c_law_written spsT) (k_law_written 9)
  have b : Binds K fd P_law_written [] := F.bindsN fun _ _ _ _ _ _ us hl => match us, hl with | [_], _ => rfl
  exact ⟨_, He.glo_ok X Gm (wd_ok c (d := .glo "_law_written") (by rfl)), F.kp, fn_raw rfl ok b⟩
theorem ft_law_divisor (c : SaysP (wds.map Wd.ok) fns tts w K) (X : K.In base) (Gm : base.Ns mainGlobals mg) (h : FTs P w K mg base 11) : FT P w K mg base (Sk K) (spsT 5) ⟨.fn "_law_divisor", [false, false], 12⟩ := by
  obtain ⟨fd, F⟩ := c.defn 5 (d := d_law_divisor) rfl
  have ok : FnB P w K mg base 12 _ fd P_law_divisor (spOf (Sk K) [false, false] (spsT 5)) := fn_okD F sc_law_divisor (wok 11 c X Gm h) rfl rfl (c_law_divisor spsT) (k_law_divisor 11)
  have b : Binds K fd P_law_divisor [] := F.bindsN fun _ _ _ _ _ _ us hl => match us, hl with | [_, _], _ => rfl
  exact ⟨_, He.glo_ok X Gm (wd_ok c (d := .glo "_law_divisor") (by rfl)), F.kp, fn_raw rfl ok b⟩
theorem ft_law_turns_in (c : SaysP (wds.map Wd.ok) fns tts w K) (X : K.In base) (Gm : base.Ns mainGlobals mg) (h : FTs P w K mg base 13) : FT P w K mg base (Sk K) (spsT 6) ⟨.fn "_law_turns_in", [false], 14⟩ := by
  obtain ⟨fd, F⟩ := c.defn 6 (d := d_law_turns_in) rfl
  have ok : FnB P w K mg base 14 _ fd P_law_turns_in (spOf (Sk K) [false] (spsT 6)) := fn_okD F sc_law_turns_in (wok 13 c X Gm h) rfl rfl (c_law_turns_in spsT) (k_law_turns_in 13)
  have b : Binds K fd P_law_turns_in [] := F.bindsN fun _ _ _ _ _ _ us hl => match us, hl with | [_], _ => rfl
  exact ⟨_, He.glo_ok X Gm (wd_ok c (d := .glo "_law_turns_in") (by rfl)), F.kp, fn_raw rfl ok b⟩
theorem ft_law_parts_of (c : SaysP (wds.map Wd.ok) fns tts w K) (X : K.In base) (Gm : base.Ns mainGlobals mg) (h : FTs P w K mg base 15) : FT P w K mg base (Sk K) (spsT 7) ⟨.fn "_law_parts_of", [false, false], 16⟩ := by
  obtain ⟨fd, F⟩ := c.defn 7 (d := d_law_parts_of) rfl
  have ok : FnB P w K mg base 16 _ fd P_law_parts_of (spOf (Sk K) [false, false] (spsT 7)) := fn_okD F sc_law_parts_of (wok 15 c X Gm h) rfl rfl (c_law_parts_of spsT) (k_law_parts_of 15)
  have b : Binds K fd P_law_parts_of [] := F.bindsN fun _ _ _ _ _ _ us hl => match us, hl with | [_, _], _ => rfl
  exact ⟨_, He.glo_ok X Gm (wd_ok c (d := .glo "_law_parts_of") (by rfl)), F.kp, fn_raw rfl ok b⟩
theorem ft_law_dealt (c : SaysP (wds.map Wd.ok) fns tts w K) (X : K.In base) (Gm : base.Ns mainGlobals mg) (h : FTs P w K mg base 17) : FT P w K mg base (Sk K) (spsT 8) ⟨.fn "_law_dealt", [false, false], 18⟩ := by
  obtain ⟨fd, F⟩ := c.defn 8 (d := d_law_dealt) rfl
  have ok : FnB P w K mg base 18 _ fd P_law_dealt (spOf (Sk K) [false, false] (spsT 8)) := fn_okD F sc_law_dealt (wok 17 c X Gm h) rfl rfl (c_law_dealt spsT) (k_law_dealt 17)
  have b : Binds K fd P_law_dealt [] := F.bindsN fun _ _ _ _ _ _ us hl => match us, hl with | [_, _], _ => rfl
  exact ⟨_, He.glo_ok X Gm (wd_ok c (d := .glo "_law_dealt") (by rfl)), F.kp, fn_raw rfl ok b⟩
theorem ft_law_greatest (c : SaysP (wds.map Wd.ok) fns tts w K) (X : K.In base) (Gm : base.Ns mainGlobals mg) (h : FTs P w K mg base 19) : FT P w K mg base (Sk K) (spsT 9) ⟨.fn "_law_greatest", [false, false, false], 20⟩ := by
  obtain ⟨fd, F⟩ := c.defn 9 (d := d_law_greatest) rfl
  have ok : FnB P w K mg base 20 _ fd P_law_greatest (spOf (Sk K) [false, false, false] (spsT 9)) := fn_okD F sc_law_greatest (wok 19 c X Gm h) rfl rfl (c_law_greatest spsT) (k_law_greatest 19)
  have b : Binds K fd P_law_greatest [] := F.bindsN fun _ _ _ _ _ _ us hl => match us, hl with | [_, _, _], _ => rfl
  exact ⟨_, He.glo_ok X Gm (wd_ok c (d := .glo "_law_greatest") (by rfl)), F.kp, fn_raw rfl ok b⟩
theorem ft_is_log_shown (c : SaysP (wds.map Wd.ok) fns tts w K) (X : K.In base) (Gm : base.Ns mainGlobals mg) (h : FTs P w K mg base 21) : FT P w K mg base (Sk K) (spsT 10) ⟨.fn "is_log_shown", [false, false], 22⟩ := by
  obtain ⟨fd, F⟩ := c.defn 10 (d := d_is_log_shown) rfl
  exact ⟨_, He.glo_ok X Gm (wd_ok c (d := .glo "is_log_shown") (by rfl)), F.kp, fnG_no⟩
theorem ft_is_name (c : SaysP (wds.map Wd.ok) fns tts w K) (X : K.In base) (Gm : base.Ns mainGlobals mg) (h : FTs P w K mg base 23) : FT P w K mg base (Sk K) (spsT 11) ⟨.fn "is_name", [false], 24⟩ := by
  obtain ⟨fd, F⟩ := c.defn 11 (d := d_is_name) rfl
  have ok : FnB P w K mg base 24 _ fd P_is_name (spOf (Sk K) [false] (spsT 11)) := fn_okD F sc_is_name (wok 23 c X Gm h) rfl rfl (c_is_name spsT) (k_is_name 23)
  have b : Binds K fd P_is_name [] := F.bindsN fun _ _ _ _ _ _ us hl => match us, hl with | [_], _ => rfl
  exact ⟨_, He.glo_ok X Gm (wd_ok c (d := .glo "is_name") (by rfl)), F.kp, fn_raw rfl ok b⟩
theorem ft_amount_in (c : SaysP (wds.map Wd.ok) fns tts w K) (X : K.In base) (Gm : base.Ns mainGlobals mg) (h : FTs P w K mg base 25) : FT P w K mg base (Sk K) (spsT 12) ⟨.fn "amount_in", [false], 26⟩ := by
  obtain ⟨fd, F⟩ := c.defn 12 (d := d_amount_in) rfl
  have ok : FnB P w K mg base 26 _ fd P_amount_in (spOf (Sk K) [false] (spsT 12)) := fn_okD F sc_amount_in (wok 25 c X Gm h) rfl rfl (c_amount_in spsT) (k_amount_in 25)
  have b : Binds K fd P_amount_in [] := F.bindsN fun _ _ _ _ _ _ us hl => match us, hl with | [_], _ => rfl
  exact ⟨_, He.glo_ok X Gm (wd_ok c (d := .glo "amount_in") (by rfl)), F.kp, fn_raw rfl ok b⟩
theorem ft_is_whole (c : SaysP (wds.map Wd.ok) fns tts w K) (X : K.In base) (Gm : base.Ns mainGlobals mg) (h : FTs P w K mg base 27) : FT P w K mg base (Sk K) (spsT 13) ⟨.fn "is_whole", [false], 28⟩ := by
  obtain ⟨fd, F⟩ := c.defn 13 (d := d_is_whole) rfl
  have ok : FnB P w K mg base 28 _ fd P_is_whole (spOf (Sk K) [false] (spsT 13)) := fn_okD F sc_is_whole (wok 27 c X Gm h) rfl rfl (c_is_whole spsT) (k_is_whole 27)
  have b : Binds K fd P_is_whole [] := F.bindsN fun _ _ _ _ _ _ us hl => match us, hl with | [_], _ => rfl
  exact ⟨_, He.glo_ok X Gm (wd_ok c (d := .glo "is_whole") (by rfl)), F.kp, fn_raw rfl ok b⟩
theorem ft_is_stride (c : SaysP (wds.map Wd.ok) fns tts w K) (X : K.In base) (Gm : base.Ns mainGlobals mg) (h : FTs P w K mg base 29) : FT P w K mg base (Sk K) (spsT 14) ⟨.fn "is_stride", [false], 30⟩ := by
  obtain ⟨fd, F⟩ := c.defn 14 (d := d_is_stride) rfl
  have ok : FnB P w K mg base 30 _ fd P_is_stride (spOf (Sk K) [false] (spsT 14)) := fn_okD F sc_is_stride (wok 29 c X Gm h) rfl rfl (c_is_stride spsT) (k_is_stride 29)
  have b : Binds K fd P_is_stride [] := F.bindsN fun _ _ _ _ _ _ us hl => match us, hl with | [_], _ => rfl
  exact ⟨_, He.glo_ok X Gm (wd_ok c (d := .glo "is_stride") (by rfl)), F.kp, fn_raw rfl ok b⟩
theorem ft_check_stride (c : SaysP (wds.map Wd.ok) fns tts w K) (X : K.In base) (Gm : base.Ns mainGlobals mg) (h : FTs P w K mg base 31) : FT P w K mg base (Sk K) (spsT 15) ⟨.fn "check_stride", [false], 32⟩ := by
  obtain ⟨fd, F⟩ := c.defn 15 (d := d_check_stride) rfl
  have ok : FnB P w K mg base 32 _ fd P_check_stride (spOf (Sk K) [false] (spsT 15)) := fn_okD F sc_check_stride (wok 31 c X Gm h) rfl rfl (c_check_stride spsT) (k_check_stride 31)
  have b : Binds K fd P_check_stride [] := F.bindsN fun _ _ _ _ _ _ us hl => match us, hl with | [_], _ => rfl
  exact ⟨_, He.glo_ok X Gm (wd_ok c (d := .glo "check_stride") (by rfl)), F.kp, fn_raw rfl ok b⟩
theorem ft_is_amount (c : SaysP (wds.map Wd.ok) fns tts w K) (X : K.In base) (Gm : base.Ns mainGlobals mg) (h : FTs P w K mg base 33) : FT P w K mg base (Sk K) (spsT 16) ⟨.fn "is_amount", [false], 34⟩ := by
  obtain ⟨fd, F⟩ := c.defn 16 (d := d_is_amount) rfl
  have ok : FnB P w K mg base 34 _ fd P_is_amount (spOf (Sk K) [false] (spsT 16)) := fn_okD F sc_is_amount (wok 33 c X Gm h) rfl rfl (c_is_amount spsT) (k_is_amount 33)
  have b : Binds K fd P_is_amount [] := F.bindsN fun _ _ _ _ _ _ us hl => match us, hl with | [_], _ => rfl
  exact ⟨_, He.glo_ok X Gm (wd_ok c (d := .glo "is_amount") (by rfl)), F.kp, fn_raw rfl ok b⟩
theorem ft_check_number (c : SaysP (wds.map Wd.ok) fns tts w K) (X : K.In base) (Gm : base.Ns mainGlobals mg) (h : FTs P w K mg base 35) : FT P w K mg base (Sk K) (spsT 17) ⟨.fn "check_number", [false], 36⟩ := by
  obtain ⟨fd, F⟩ := c.defn 17 (d := d_check_number) rfl
  have ok : FnB P w K mg base 36 _ fd P_check_number (spOf (Sk K) [false] (spsT 17)) := fn_okD F sc_check_number (wok 35 c X Gm h) rfl rfl (c_check_number spsT) (k_check_number 35)
  have b : Binds K fd P_check_number [] := F.bindsN fun _ _ _ _ _ _ us hl => match us, hl with | [_], _ => rfl
  exact ⟨_, He.glo_ok X Gm (wd_ok c (d := .glo "check_number") (by rfl)), F.kp, fn_raw rfl ok b⟩
theorem ft_Taker_init (c : SaysP (wds.map Wd.ok) fns tts w K) (X : K.In base) (Gm : base.Ns mainGlobals mg) (h : FTs P w K mg base 37) : FT P w K mg base (Sk K) (spsT 18) ⟨.init 0, [true, false, false, false], 38⟩ := by
  obtain ⟨fd, F⟩ := c.defn 18 (d := d_Taker_init) rfl
  have ok : FnB P w K mg base 38 _ fd P_Taker_init (spOf (Sk K) [true, false, false, false] (spsT 18)) := fn_okD F sc_Taker_init (wok 37 c X Gm h) rfl rfl (c_Taker_init spsT) (k_Taker_init 37)
  have b : Binds K fd P_Taker_init [] := bindsD F (n := 4) (by simp [d_Taker_init, He5.DefA.dvs]) rfl fun _ _ _ _ _ _ _ us its l1 l2 => match us, l1, its, l2 with | [_, _, _, _], _, [_], _ => ⟨_, rfl, rfl⟩
  exact ⟨_, He.mkr_ok (wd_ok c (d := .mkr "Taker") (by rfl)), fn_raw rfl ok b⟩
theorem ft_taker_in (c : SaysP (wds.map Wd.ok) fns tts w K) (X : K.In base) (Gm : base.Ns mainGlobals mg) (h : FTs P w K mg base 39) : FT P w K mg base (Sk K) (spsT 19) ⟨.fn "taker_in", [false], 40⟩ := by
  obtain ⟨fd, F⟩ := c.defn 19 (d := d_taker_in) rfl
  have ok : FnB P w K mg base 40 _ fd P_taker_in (spOf (Sk K) [false] (spsT 19)) := fn_okD F sc_taker_in (wok 39 c X Gm h) rfl rfl (c_taker_in spsT) (k_taker_in 39)
  have b : Binds K fd P_taker_in [] := F.bindsN fun _ _ _ _ _ _ us hl => match us, hl with | [_], _ => rfl
  exact ⟨_, He.glo_ok X Gm (wd_ok c (d := .glo "taker_in") (by rfl)), F.kp, fn_raw rfl ok b⟩
theorem ft_takers_in (c : SaysP (wds.map Wd.ok) fns tts w K) (X : K.In base) (Gm : base.Ns mainGlobals mg) (h : FTs P w K mg base 41) : FT P w K mg base (Sk K) (spsT 20) ⟨.fn "takers_in", [false], 42⟩ := by
  obtain ⟨fd, F⟩ := c.defn 20 (d := d_takers_in) rfl
  have ok : FnB P w K mg base 42 _ fd P_takers_in (spOf (Sk K) [false] (spsT 20)) := fn_okD F sc_takers_in (wok 41 c X Gm h) rfl rfl (c_takers_in spsT) (k_takers_in 41)
  have b : Binds K fd P_takers_in [] := F.bindsN fun _ _ _ _ _ _ us hl => match us, hl with | [_], _ => rfl
  exact ⟨_, He.glo_ok X Gm (wd_ok c (d := .glo "takers_in") (by rfl)), F.kp, fn_raw rfl ok b⟩
theorem ft_check_takers (c : SaysP (wds.map Wd.ok) fns tts w K) (X : K.In base) (Gm : base.Ns mainGlobals mg) (h : FTs P w K mg base 43) : FT P w K mg base (Sk K) (spsT 21) ⟨.fn "check_takers", [false], 44⟩ := by
  obtain ⟨fd, F⟩ := c.defn 21 (d := d_check_takers) rfl
  have ok : FnB P w K mg base 44 _ fd P_check_takers (spOf (Sk K) [false] (spsT 21)) := fn_okD F sc_check_takers (wok 43 c X Gm h) rfl rfl (c_check_takers spsT) (k_check_takers 43)
  have b : Binds K fd P_check_takers [] := F.bindsN fun _ _ _ _ _ _ us hl => match us, hl with | [_], _ => rfl
  exact ⟨_, He.glo_ok X Gm (wd_ok c (d := .glo "check_takers") (by rfl)), F.kp, fn_raw rfl ok b⟩
theorem ft_common_divisor (c : SaysP (wds.map Wd.ok) fns tts w K) (X : K.In base) (Gm : base.Ns mainGlobals mg) (h : FTs P w K mg base 45) : FT P w K mg base (Sk K) (spsT 22) ⟨.fn "common_divisor", [false, false], 46⟩ := by
  obtain ⟨fd, F⟩ := c.defn 22 (d := d_common_divisor) rfl
  have ok : FnB P w K mg base 46 _ fd P_common_divisor (spOf (Sk K) [false, false] (spsT 22)) := fn_okD F sc_common_divisor (wok 45 c X Gm h) rfl rfl (c_common_divisor spsT) (k_common_divisor 45)
  have b : Binds K fd P_common_divisor [] := F.bindsN fun _ _ _ _ _ _ us hl => match us, hl with | [_, _], _ => rfl
  exact ⟨_, He.glo_ok X Gm (wd_ok c (d := .glo "common_divisor") (by rfl)), F.kp, fn_raw rfl ok b⟩
theorem ft_common_multiple (c : SaysP (wds.map Wd.ok) fns tts w K) (X : K.In base) (Gm : base.Ns mainGlobals mg) (h : FTs P w K mg base 47) : FT P w K mg base (Sk K) (spsT 23) ⟨.fn "common_multiple", [false], 48⟩ := by
  obtain ⟨fd, F⟩ := c.defn 23 (d := d_common_multiple) rfl
  have ok : FnB P w K mg base 48 _ fd P_common_multiple (spOf (Sk K) [false] (spsT 23)) := fn_okD F sc_common_multiple (wok 47 c X Gm h) rfl rfl (c_common_multiple spsT) (k_common_multiple 47)
  have b : Binds K fd P_common_multiple [] := F.bindsN fun _ _ _ _ _ _ us hl => match us, hl with | [_], _ => rfl
  exact ⟨_, He.glo_ok X Gm (wd_ok c (d := .glo "common_multiple") (by rfl)), F.kp, fn_raw rfl ok b⟩
theorem ft_Taker_turns_below (c : SaysP (wds.map Wd.ok) fns tts w K) (X : K.In base) (Gm : base.Ns mainGlobals mg) (h : FTs P w K mg base 49) : FT P w K mg base (Sk K) (spsT 24) ⟨.meth 0 "turns_below", [false, false], 50⟩ := by
  obtain ⟨fd, F⟩ := c.defn 24 (d := d_Taker_turns_below) rfl
  have ok : FnB P w K mg base 50 _ fd P_Taker_turns_below (spOf (Sk K) [false, false] (spsT 24)) := fn_okD F sc_Taker_turns_below (wok 49 c X Gm h) rfl rfl (c_Taker_turns_below spsT) (k_Taker_turns_below 49)
  have b : Binds K fd P_Taker_turns_below [] := F.bindsN fun _ _ _ _ _ _ us hl => match us, hl with | [_, _], _ => rfl
  exact ⟨_, He.meth_ok (wd_ok c (d := .meth "Taker" "turns_below") (by rfl)), fn_raw rfl ok b⟩
theorem ft_Deal_all_below (c : SaysP (wds.map Wd.ok) fns tts w K) (X : K.In base) (Gm : base.Ns mainGlobals mg) (h : FTs P w K mg base 51) : FT P w K mg base (Sk K) (spsT 25) ⟨.meth 1 "all_below", [false, false], 52⟩ := by
  obtain ⟨fd, F⟩ := c.defn 25 (d := d_Deal_all_below) rfl
  have ok : FnB P w K mg base 52 _ fd P_Deal_all_below (spOf (Sk K) [false, false] (spsT 25)) := fn_okD F sc_Deal_all_below (wok 51 c X Gm h) rfl rfl (c_Deal_all_below spsT) (k_Deal_all_below 51)
  have b : Binds K fd P_Deal_all_below [] := F.bindsN fun _ _ _ _ _ _ us hl => match us, hl with | [_, _], _ => rfl
  exact ⟨_, He.meth_ok (wd_ok c (d := .meth "Deal" "all_below") (by rfl)), fn_raw rfl ok b⟩
theorem ft_Deal_init (c : SaysP (wds.map Wd.ok) fns tts w K) (X : K.In base) (Gm : base.Ns mainGlobals mg) (h : FTs P w K mg base 53) : FT P w K mg base (Sk K) (spsT 26) ⟨.initS 1, [true, false], 54⟩ := by
  obtain ⟨fd, F⟩ := c.defn 26 (d := d_Deal_init) rfl
  exact ⟨_, He.mkr_ok (wd_ok c (d := .mkr "Deal") (by rfl)), rfl, fn_okS (ps := ["self"]) F sc_Deal_init (wok 53 c X Gm h) rfl (c_Deal_init spsT) (k_Deal_init 53) fun _ _ _ _ _ _ us rest hl => match us, hl, rest with | [_], _, [] => rfl | [_], _, _ :: _ => rfl⟩
theorem ft_Deal_read (c : SaysP (wds.map Wd.ok) fns tts w K) (X : K.In base) (Gm : base.Ns mainGlobals mg) (h : FTs P w K mg base 55) : FT P w K mg base (Sk K) (spsT 27) ⟨.stat 1 "read", [false], 56⟩ := by
  obtain ⟨fd, F⟩ := c.defn 27 (d := d_Deal_read) rfl
  have ok : FnB P w K mg base 56 _ fd P_Deal_read (spOf (Sk K) [false] (spsT 27)) := fn_okD F sc_Deal_read (wok 55 c X Gm h) rfl rfl (c_Deal_read spsT) (k_Deal_read 55)
  have b : Binds K fd P_Deal_read [] := F.bindsN fun _ _ _ _ _ _ us hl => match us, hl with | [_], _ => rfl
  exact ⟨_, _, fStat_ok (wd_ok c (d := .stat "Deal" "read") (by rfl)), fn_raw rfl ok b⟩
theorem ft_deal_written (c : SaysP (wds.map Wd.ok) fns tts w K) (X : K.In base) (Gm : base.Ns mainGlobals mg) (h : FTs P w K mg base 57) : FT P w K mg base (Sk K) (spsT 28) ⟨.fn "deal_written", [false], 58⟩ := by
  obtain ⟨fd, F⟩ := c.defn 28 (d := d_deal_written) rfl
  have ok : FnB P w K mg base 58 _ fd P_deal_written (spOf (Sk K) [false] (spsT 28)) := fn_okD F sc_deal_written (wok 57 c X Gm h) rfl rfl (c_deal_written spsT) (k_deal_written 57)
  have b : Binds K fd P_deal_written [] := F.bindsN fun _ _ _ _ _ _ us hl => match us, hl with | [_], _ => rfl
  exact ⟨_, He.glo_ok X Gm (wd_ok c (d := .glo "deal_written") (by rfl)), F.kp, fn_raw rfl ok b⟩
theorem ft_is_figure (c : SaysP (wds.map Wd.ok) fns tts w K) (X : K.In base) (Gm : base.Ns mainGlobals mg) (h : FTs P w K mg base 59) : FT P w K mg base (Sk K) (spsT 29) ⟨.fn "is_figure", [false], 60⟩ := by
  obtain ⟨fd, F⟩ := c.defn 29 (d := d_is_figure) rfl
  have ok : FnB P w K mg base 60 _ fd P_is_figure (spOf (Sk K) [false] (spsT 29)) := fn_okD F sc_is_figure (wok 59 c X Gm h) rfl rfl (c_is_figure spsT) (k_is_figure 59)
  have b : Binds K fd P_is_figure [] := F.bindsN fun _ _ _ _ _ _ us hl => match us, hl with | [_], _ => rfl
  exact ⟨_, He.glo_ok X Gm (wd_ok c (d := .glo "is_figure") (by rfl)), F.kp, fn_raw rfl ok b⟩
theorem ft_is_count (c : SaysP (wds.map Wd.ok) fns tts w K) (X : K.In base) (Gm : base.Ns mainGlobals mg) (h : FTs P w K mg base 61) : FT P w K mg base (Sk K) (spsT 30) ⟨.fn "is_count", [false], 62⟩ := by
  obtain ⟨fd, F⟩ := c.defn 30 (d := d_is_count) rfl
  have ok : FnB P w K mg base 62 _ fd P_is_count (spOf (Sk K) [false] (spsT 30)) := fn_okD F sc_is_count (wok 61 c X Gm h) rfl rfl (c_is_count spsT) (k_is_count 61)
  have b : Binds K fd P_is_count [] := F.bindsN fun _ _ _ _ _ _ us hl => match us, hl with | [_], _ => rfl
  exact ⟨_, He.glo_ok X Gm (wd_ok c (d := .glo "is_count") (by rfl)), F.kp, fn_raw rfl ok b⟩
theorem ft_shows_turn (c : SaysP (wds.map Wd.ok) fns tts w K) (X : K.In base) (Gm : base.Ns mainGlobals mg) (h : FTs P w K mg base 63) : FT P w K mg base (Sk K) (spsT 31) ⟨.fn "shows_turn", [false, false, false, false], 64⟩ := by
  obtain ⟨fd, F⟩ := c.defn 31 (d := d_shows_turn) rfl
  exact ⟨_, He.glo_ok X Gm (wd_ok c (d := .glo "shows_turn") (by rfl)), F.kp, fnG_no⟩
theorem ft_is_row_of (c : SaysP (wds.map Wd.ok) fns tts w K) (X : K.In base) (Gm : base.Ns mainGlobals mg) (h : FTs P w K mg base 65) : FT P w K mg base (Sk K) (spsT 32) ⟨.fn "is_row_of", [false, false], 66⟩ := by
  obtain ⟨fd, F⟩ := c.defn 32 (d := d_is_row_of) rfl
  have ok : FnB P w K mg base 66 _ fd P_is_row_of (spOf (Sk K) [false, false] (spsT 32)) := fn_okD F sc_is_row_of (wok 65 c X Gm h) rfl rfl (c_is_row_of spsT) (k_is_row_of 65)
  have b : Binds K fd P_is_row_of [] := F.bindsN fun _ _ _ _ _ _ us hl => match us, hl with | [_, _], _ => rfl
  exact ⟨_, He.glo_ok X Gm (wd_ok c (d := .glo "is_row_of") (by rfl)), F.kp, fn_raw rfl ok b⟩
theorem ft_shows_lead (c : SaysP (wds.map Wd.ok) fns tts w K) (X : K.In base) (Gm : base.Ns mainGlobals mg) (h : FTs P w K mg base 67) : FT P w K mg base (Sk K) (spsT 33) ⟨.fn "shows_lead", [false, false, false, false], 68⟩ := by
  obtain ⟨fd, F⟩ := c.defn 33 (d := d_shows_lead) rfl
  have ok : FnB P w K mg base 68 _ fd P_shows_lead (spOf (Sk K) [false, false, false, false] (spsT 33)) := fn_okD F sc_shows_lead (wok 67 c X Gm h) rfl rfl (c_shows_lead spsT) (k_shows_lead 67)
  have b : Binds K fd P_shows_lead [] := F.bindsN fun _ _ _ _ _ _ us hl => match us, hl with | [_, _, _, _], _ => rfl
  exact ⟨_, He.glo_ok X Gm (wd_ok c (d := .glo "shows_lead") (by rfl)), F.kp, fn_raw rfl ok b⟩
theorem ft_is_lead_shown (c : SaysP (wds.map Wd.ok) fns tts w K) (X : K.In base) (Gm : base.Ns mainGlobals mg) (h : FTs P w K mg base 69) : FT P w K mg base (Sk K) (spsT 34) ⟨.fn "is_lead_shown", [false, false, false], 70⟩ := by
  obtain ⟨fd, F⟩ := c.defn 34 (d := d_is_lead_shown) rfl
  have ok : FnB P w K mg base 70 _ fd P_is_lead_shown (spOf (Sk K) [false, false, false] (spsT 34)) := fn_okD F sc_is_lead_shown (wok 69 c X Gm h) rfl rfl (c_is_lead_shown spsT) (k_is_lead_shown 69)
  have b : Binds K fd P_is_lead_shown [] := F.bindsN fun _ _ _ _ _ _ us hl => match us, hl with | [_, _, _], _ => rfl
  exact ⟨_, He.glo_ok X Gm (wd_ok c (d := .glo "is_lead_shown") (by rfl)), F.kp, fn_raw rfl ok b⟩
theorem ft_shows_alike (c : SaysP (wds.map Wd.ok) fns tts w K) (X : K.In base) (Gm : base.Ns mainGlobals mg) (h : FTs P w K mg base 71) : FT P w K mg base (Sk K) (spsT 35) ⟨.fn "shows_alike", [false, false, false], 72⟩ := by
  obtain ⟨fd, F⟩ := c.defn 35 (d := d_shows_alike) rfl
  exact ⟨_, He.glo_ok X Gm (wd_ok c (d := .glo "shows_alike") (by rfl)), F.kp, fnG_no⟩
theorem ft_is_unlike_shown (c : SaysP (wds.map Wd.ok) fns tts w K) (X : K.In base) (Gm : base.Ns mainGlobals mg) (h : FTs P w K mg base 73) : FT P w K mg base (Sk K) (spsT 36) ⟨.fn "is_unlike_shown", [false, false, false, false], 74⟩ := by
  obtain ⟨fd, F⟩ := c.defn 36 (d := d_is_unlike_shown) rfl
  exact ⟨_, He.glo_ok X Gm (wd_ok c (d := .glo "is_unlike_shown") (by rfl)), F.kp, fnG_no⟩
theorem ft_holds (c : SaysP (wds.map Wd.ok) fns tts w K) (X : K.In base) (Gm : base.Ns mainGlobals mg) (h : FTs P w K mg base 75) : FT P w K mg base (Sk K) (spsT 37) ⟨.fn "holds", [false, false], 76⟩ := by
  obtain ⟨fd, F⟩ := c.defn 37 (d := d_holds) rfl
  have ok : FnB P w K mg base 76 _ fd P_holds (spOf (Sk K) [false, false] (spsT 37)) := fn_okD F sc_holds (wok 75 c X Gm h) rfl rfl (c_holds spsT) (k_holds 75)
  have b : Binds K fd P_holds [] := F.bindsN fun _ _ _ _ _ _ us hl => match us, hl with | [_, _], _ => rfl
  exact ⟨_, He.glo_ok X Gm (wd_ok c (d := .glo "holds") (by rfl)), F.kp, fn_raw rfl ok b⟩
theorem ft_law_marred_r0 (c : SaysP (wds.map Wd.ok) fns tts w K) (X : K.In base) (Gm : base.Ns mainGlobals mg) (h : FTs P w K mg base 77) : FT P w K mg base (Sk K) (spsT 38) ⟨.fn "_law_marred", [true, false], 78⟩ := by
  obtain ⟨fd, F⟩ := c.defn 38 (d := d_law_marred_r0) rfl
  exact ⟨_, He.glo_ok X Gm (wd_ok c (d := .glo "_law_marred") (by rfl)), F.kp, fnG_no⟩
theorem ft_law_marred_r1 (c : SaysP (wds.map Wd.ok) fns tts w K) (X : K.In base) (Gm : base.Ns mainGlobals mg) (h : FTs P w K mg base 79) : FT P w K mg base (Sk K) (spsT 39) ⟨.fn "_law_marred", [true, false], 80⟩ := by
  obtain ⟨fd, F⟩ := c.defn 39 (d := d_law_marred_r1) rfl
  have ok : FnB P w K mg base 80 _ fd P_law_marred_r1 (spOf (Sk K) [true, false] (spsT 39)) := fn_okD F sc_law_marred_r1 (wok 79 c X Gm h) rfl rfl (c_law_marred_r1 spsT) (k_law_marred_r1 79)
  have b : Binds K fd P_law_marred_r1 [] := F.bindsN fun _ _ _ _ _ _ us hl => match us, hl with | [_, _], _ => rfl
  exact ⟨_, He.glo_ok X Gm (wd_ok c (d := .glo "_law_marred") (by rfl)), F.kp, fn_raw rfl ok b⟩
theorem ft_law_marred_r2 (c : SaysP (wds.map Wd.ok) fns tts w K) (X : K.In base) (Gm : base.Ns mainGlobals mg) (h : FTs P w K mg base 81) : FT P w K mg base (Sk K) (spsT 40) ⟨.fn "_law_marred", [true, false], 82⟩ := by
  obtain ⟨fd, F⟩ := c.defn 40 (d := d_law_marred_r2) rfl
  have ok : FnB P w K mg base 82 _ fd P_law_marred_r2 (spOf (Sk K) [true, false] (spsT 40)) := fn_okD F sc_law_marred_r2 (wok 81 c X Gm h) rfl rfl (c_law_marred_r2 spsT) (k_law_marred_r2 81)
  have b : Binds K fd P_law_marred_r2 [] := F.bindsN fun _ _ _ _ _ _ us hl => match us, hl with | [_, _], _ => rfl
  exact ⟨_, He.glo_ok X Gm (wd_ok c (d := .glo "_law_marred") (by rfl)), F.kp, fn_raw rfl ok b⟩
theorem ft_law_changed (c : SaysP (wds.map Wd.ok) fns tts w K) (X : K.In base) (Gm : base.Ns mainGlobals mg) (h : FTs P w K mg base 83) : FT P w K mg base (Sk K) (spsT 41) ⟨.fn "_law_changed", [true, false], 84⟩ := by
  obtain ⟨fd, F⟩ := c.defn 41 (d := d_law_changed) rfl
  have ok : FnB P w K mg base 84 _ fd P_law_changed (spOf (Sk K) [true, false] (spsT 41)) := fn_okD F sc_law_changed (wok 83 c X Gm h) rfl rfl (c_law_changed spsT) (k_law_changed 83)
  have b : Binds K fd P_law_changed [] := F.bindsN fun _ _ _ _ _ _ us hl => match us, hl with | [_, _], _ => rfl
  exact ⟨_, He.glo_ok X Gm (wd_ok c (d := .glo "_law_changed") (by rfl)), F.kp, fn_raw rfl ok b⟩
theorem ft_law_is_integer (c : SaysP (wds.map Wd.ok) fns tts w K) (X : K.In base) (Gm : base.Ns mainGlobals mg) (h : FTs P w K mg base 85) : FT P w K mg base (Sk K) (spsT 42) ⟨.fn "_law_is_integer", [false], 86⟩ := by
  obtain ⟨fd, F⟩ := c.defn 42 (d := d_law_is_integer) rfl
  have ok : FnB P w K mg base 86 _ fd P_law_is_integer (spOf (Sk K) [false] (spsT 42)) := fn_okD F sc_law_is_integer (wok 85 c X Gm h) rfl rfl (c_law_is_integer spsT) (k_law_is_integer 85)
  have b : Binds K fd P_law_is_integer [] := F.bindsN fun _ _ _ _ _ _ us hl => match us, hl with | [_], _ => rfl
  exact ⟨_, He.glo_ok X Gm (wd_ok c (d := .glo "_law_is_integer") (by rfl)), F.kp, fn_raw rfl ok b⟩
theorem ft_law_judged (c : SaysP (wds.map Wd.ok) fns tts w K) (X : K.In base) (Gm : base.Ns mainGlobals mg) (h : FTs P w K mg base 87) : FT P w K mg base (Sk K) (spsT 43) ⟨.fn "_law_judged", [false, false, false, false, false], 88⟩ := by
  obtain ⟨fd, F⟩ := c.defn 43 (d := d_law_judged) rfl
  have ok : FnB P w K mg base 88 _ fd P_law_judged (spOf (Sk K) [false, false, false, false, false] (spsT 43)) := fn_okD F sc_law_judged (wok 87 c X Gm h) rfl rfl (c_law_judged spsT) (k_law_judged 87)
  have b : Binds K fd P_law_judged [] := F.bindsN fun _ _ _ _ _ _ us hl => match us, hl with | [_, _, _, _, _], _ => rfl
  exact ⟨_, He.glo_ok X Gm (wd_ok c (d := .glo "_law_judged") (by rfl)), F.kp, fn_raw rfl ok b⟩
theorem ft_law_all_right (c : SaysP (wds.map Wd.ok) fns tts w K) (X : K.In base) (Gm : base.Ns mainGlobals mg) (h : FTs P w K mg base 89) : FT P w K mg base (Sk K) (spsT 44) ⟨.fn "_law_all_right", [true], 90⟩ := by
  obtain ⟨fd, F⟩ := c.defn 44 (d := d_law_all_right) rfl
  have ok : FnB P w K mg base 90 _ fd P_law_all_right (spOf (Sk K) [true] (spsT 44)) := fn_okD F sc_law_all_right (wok 89 c X Gm h) rfl rfl (c_law_all_right spsT) (k_law_all_right 89)
  have b : Binds K fd P_law_all_right [] := F.bindsN fun _ _ _ _ _ _ us hl => match us, hl with | [_], _ => rfl
  exact ⟨_, He.glo_ok X Gm (wd_ok c (d := .glo "_law_all_right") (by rfl)), F.kp, fn_raw rfl ok b⟩
theorem ft_law_hatful (c : SaysP (wds.map Wd.ok) fns tts w K) (X : K.In base) (Gm : base.Ns mainGlobals mg) (h : FTs P w K mg base 91) : FT P w K mg base (Sk K) (spsT 45) ⟨.fn "_law_hatful", [false, false], 92⟩ := by
  obtain ⟨fd, F⟩ := c.defn 45 (d := d_law_hatful) rfl
  have ok : FnB P w K mg base 92 _ fd P_law_hatful (spOf (Sk K) [false, false] (spsT 45)) := fn_okD F sc_law_hatful (wok 91 c X Gm h) rfl rfl (c_law_hatful spsT) (k_law_hatful 91)
  have b : Binds K fd P_law_hatful [] := F.bindsN fun _ _ _ _ _ _ us hl => match us, hl with | [_, _], _ => rfl
  exact ⟨_, He.glo_ok X Gm (wd_ok c (d := .glo "_law_hatful") (by rfl)), F.kp, fn_raw rfl ok b⟩
theorem ft_law (c : SaysP (wds.map Wd.ok) fns tts w K) (X : K.In base) (Gm : base.Ns mainGlobals mg) (h : FTs P w K mg base 93) : FT P w K mg base (Sk K) (spsT 46) ⟨.fn "law", [false], 94⟩ := by
  obtain ⟨fd, F⟩ := c.defn 46 (d := d_law) rfl
  have ok : FnB P w K mg base 94 _ fd P_law (spOf (Sk K) [false] (spsT 46)) := fn_okD F sc_law (wok 93 c X Gm h) rfl rfl (c_law spsT) (k_law 93)
  have b : Binds K fd P_law [] := F.bindsN fun _ _ _ _ _ _ us hl => match us, hl with | [_], _ => rfl
  exact ⟨_, He.glo_ok X Gm (wd_ok c (d := .glo "law") (by rfl)), F.kp, fn_raw rfl ok b⟩
theorem fts (c : SaysP (wds.map Wd.ok) fns tts w K) (X : K.In base) (Gm : base.Ns mainGlobals mg) : ∀ (f : Nat) (i : Fi), fis[f]? = some i → FT P w K mg base (Sk K) (spsT f) i := by
  refine table_ok (lv_ok (by rfl)) fun f i hi h => ?_
  match f, hi, h with
  | 0, rfl, h => exact ft_law_take c X Gm h
  | 1, rfl, h => exact ft_law_pull c X Gm h
  | 2, rfl, h => exact ft_law_fresh_labels c X Gm h
  | 3, rfl, h => exact ft_law_drawn_crew c X Gm h
  | 4, rfl, h => exact ft_law_written c X Gm h
  | 5, rfl, h => exact ft_law_divisor c X Gm h
  | 6, rfl, h => exact ft_law_turns_in c X Gm h
  | 7, rfl, h => exact ft_law_parts_of c X Gm h
  | 8, rfl, h => exact ft_law_dealt c X Gm h
  | 9, rfl, h => exact ft_law_greatest c X Gm h
  | 10, rfl, h => exact ft_is_log_shown c X Gm h
  | 11, rfl, h => exact ft_is_name c X Gm h
  | 12, rfl, h => exact ft_amount_in c X Gm h
  | 13, rfl, h => exact ft_is_whole c X Gm h
  | 14, rfl, h => exact ft_is_stride c X Gm h
  | 15, rfl, h => exact ft_check_stride c X Gm h
  | 16, rfl, h => exact ft_is_amount c X Gm h
  | 17, rfl, h => exact ft_check_number c X Gm h
  | 18, rfl, h => exact ft_Taker_init c X Gm h
  | 19, rfl, h => exact ft_taker_in c X Gm h
  | 20, rfl, h => exact ft_takers_in c X Gm h
  | 21, rfl, h => exact ft_check_takers c X Gm h
  | 22, rfl, h => exact ft_common_divisor c X Gm h
  | 23, rfl, h => exact ft_common_multiple c X Gm h
  | 24, rfl, h => exact ft_Taker_turns_below c X Gm h
  | 25, rfl, h => exact ft_Deal_all_below c X Gm h
  | 26, rfl, h => exact ft_Deal_init c X Gm h
  | 27, rfl, h => exact ft_Deal_read c X Gm h
  | 28, rfl, h => exact ft_deal_written c X Gm h
  | 29, rfl, h => exact ft_is_figure c X Gm h
  | 30, rfl, h => exact ft_is_count c X Gm h
  | 31, rfl, h => exact ft_shows_turn c X Gm h
  | 32, rfl, h => exact ft_is_row_of c X Gm h
  | 33, rfl, h => exact ft_shows_lead c X Gm h
  | 34, rfl, h => exact ft_is_lead_shown c X Gm h
  | 35, rfl, h => exact ft_shows_alike c X Gm h
  | 36, rfl, h => exact ft_is_unlike_shown c X Gm h
  | 37, rfl, h => exact ft_holds c X Gm h
  | 38, rfl, h => exact ft_law_marred_r0 c X Gm h
  | 39, rfl, h => exact ft_law_marred_r1 c X Gm h
  | 40, rfl, h => exact ft_law_marred_r2 c X Gm h
  | 41, rfl, h => exact ft_law_changed c X Gm h
  | 42, rfl, h => exact ft_law_is_integer c X Gm h
  | 43, rfl, h => exact ft_law_judged c X Gm h
  | 44, rfl, h => exact ft_law_all_right c X Gm h
  | 45, rfl, h => exact ft_law_hatful c X Gm h
  | 46, rfl, h => exact ft_law c X Gm h
  | (n + 47), hi, _ => exact absurd hi (by rw [show fis[n + 47]? = none from List.getElem?_eq_none (by show 47 ≤ n + 47; omega)]; simp)
theorem facts {h : Heap} {f : Addr} (X : K.In h) (Gm : h.Ns mainGlobals mg) (hfa : mg ("law" : Str) = some (.ref f)) (c : SaysP (wds.map Wd.ok) fns tts w K) :
    ∃ fd : FuncData, (∀ (s : Shared) (v : Value), BindsTo s fd ⟨[v], []⟩ [("_law_script", v)]) ∧ ∀ base : Heap, K.In base → base.Ns mainGlobals mg → FnB P w K mg base 94 f fd P_law (spOf (Sk K) [false] sp_law) := by
  obtain ⟨fd, F⟩ := c.defn 46 (d := d_law) rfl
  have e := hfa.symm.trans (He.glo_ok X Gm (wd_ok c (d := .glo "law") (by rfl)))
  cases e
  have b := FunD.bindsA (ps := P_law) F fun _ _ _ _ _ _ us hl => match us, hl with | [_], _ => rfl
  exact ⟨fd, fun s v => b s [v] rfl, fun base X' Gm' => fn_okD F sc_law (wok 93 c X' Gm' fun f i hi _ => fts c X' Gm' f i hi) rfl rfl (c_law spsT) (k_law 93)⟩
end
end SD
open PySem PySem.W PySem.Calls PyProof.Rows
set_option maxRecDepth 100000 in
theorem PySem.Challenge.cw_stridedeal_k51_whole_leads_judged_holds : PySem.Challenge.rw_stridedeal_k51_whole_leads_judged.Holds := by
  w_on; o_law
  refine HandSHeadRun.head_any (r := OpenLaw.row PySem.Challenge.rw_stridedeal_k51_whole_leads_judged) (q := view (OpenLaw.row PySem.Challenge.rw_stridedeal_k51_whole_leads_judged).prog [82]) (H := SD.hk) (ob := SD.ob) (M := 20000) (loose := SD.names) (d := HandSHeadRun.topDef (OpenLaw.row PySem.Challenge.rw_stridedeal_k51_whole_leads_judged).prog 82) (kwd := []) SD.ob_eq
    (by kernel_rfl) (fun s => by kernel_rfl) SD.run (by kernel_rfl) (by kernel_rfl) (by kernel_rfl) (by rfl) (by first | assumption | decide +kernel) (by decide +kernel) ⟨rfl, rfl, rfl, rfl, rfl, by decide +kernel⟩ ?hw ?hc
  case hw => w_witness2
  case hc =>
    refine PV.walk_ofG (l := PySem.Challenge.rw_stridedeal_k51_whole_leads_judged) (n := 63) (k := 94) (x := "_law_script") rfl (by decide) (by kernel_rfl) ⟨rfl, by decide, by decide⟩ ?F
    intro w mg fa h Y G hmg0
    obtain ⟨K, KX, c⟩ := Y
    have hmg : mg ("law" : PySem.Str) = some (.ref fa) := by
      have e : (HandSHeadRun.topDef (OpenLaw.row PySem.Challenge.rw_stridedeal_k51_whole_leads_judged).prog 82).name = ("law" : PySem.Str) := by kernel_rfl
      rw [← e]
      exact hmg0
    obtain ⟨fd, hb, hF⟩ := SD.facts (P := (PySem.Challenge.rw_stridedeal_k51_whole_leads_judged).prog) (w := w) KX G hmg c
    exact ⟨K, fd, _, KX, hb, fun H a ns hl hz _ hS => PV.law_spB hS hl hz, hF⟩
#print axioms PySem.Challenge.cw_stridedeal_k51_whole_leads_judged_holds
