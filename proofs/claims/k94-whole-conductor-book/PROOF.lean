import PyProof.Rows.All
import Wide.All
import OpenK.AllK
import Wide.FinOn
import KE.KStateDown
import HandS.ForMost
import HandS.Evl
import HandS.Conv
import HandS.Defaults
import HandS.More
import HandS.Walk
import HandS.ClsMeth
import HandS.Ends
import HandS.Head0
import HandS.Head1
import HandS.Head2
import HandS.HeadEnd
import HandS.HeadHook1
import HandS.HeadHook2
import KE.KeyNested
import KE.KDictKeyed
import KE.KDictWalk
import KE.KDictDisplayH
import KE.KDictCopyH
import KE.KDictList
import HandS.Star
import HandS.IsInst
import HandS.Property
import HandS.DictComp
import HandS.Strs
import HandS.TupAny
import HandS.Style
import HandS.Wide
import HandS.WideBits
import HandS.SortOrd
import HandS.SortRule
import KE.GoesEnum
import HandS.OwnEq
import HandS.Text
import HandS.Codes
import KE.Datum
import PySem.Challenge.RW_truetouch_k94_whole_conductor_book
set_option Elab.async false
set_option linter.all false
set_option maxRecDepth 100000
set_option maxHeartbeats 4000000
/-! Truetouch, the head: where each def stands behind the top, and what else of it is told. -/
namespace L2
open PySem PySem.Spec PyProof.Rows
def top (i : Nat) : Stmt := PySem.Challenge.pw_truetouch_k94_whole_conductor_book.main.body.getD i (.Pass ⟨0, 0, 0, 0⟩)
/-- a place of a def: a module's name; a class and its method; a class and its property, the getter -/
inductive Wh where
  | g (x : Str)
  | m (c x : Str)
  | p (c x : Str)
def gtr (K : PySem.W.Frag) (p : Addr) : Addr := match PySem.W.recIn K p "property" with
  | some (.ref g :: _) => g
  | _ => 0
def Wh.ad (K : PySem.W.Frag) : Wh → Addr
  | .g x => He.ga K x
  | .m c x => He.ma K (He.ga K c) x
  | .p c x => gtr K (He.ma K (He.ga K c) x)
structure DefW where
  pl : Wh
  nm : Str
  qu : Str
  st : Stmt
  df : List He.Dv
def DefW.vs (K : PySem.W.Frag) (d : DefW) : List V := d.df.map (He.Dv.v K)
def DefW.want (d : DefW) : He.FnW := some (d.nm, d.qu, defArgs d.st, .stmts (defBody d.st), defScope d.st, mainGlobals, [], builtinsNs)
def seenW (K : PySem.W.Frag) (a : Addr) : He.FnW := match K.lookup a with
  | some ⟨_, _, .func u, _⟩ => some (u.name, u.qualname, u.params, u.body, u.scope, u.globals, u.closure, u.builtins)
  | _ => none
def DefW.fine (K : PySem.W.Frag) (d : DefW) : Bool := PySem.W.keepIn K (.ref (d.pl.ad K)) && (match K.lookup (d.pl.ad K) with
  | some ⟨_, _, .func u, _⟩ => PySem.W.codeIn K u.code d.qu && He.dflB K u.defaults (d.vs K)
  | _ => false)
/-! ### what is told -/
abbrev ObW : Type := Bool × List He.FnW
def obW (fa : List He.Fa) (fn : List DefW) (ex : PySem.W.Frag → Bool) (K : PySem.W.Frag) : ObW := (fa.all (He.Fa.ok K) && (fn.all (DefW.fine K) && ex K), fn.map fun d => seenW K (d.pl.ad K))
def waW (fn : List DefW) : ObW := (true, fn.map DefW.want)
def SayW (fa : List He.Fa) (fn : List DefW) (ex : PySem.W.Frag → Bool) (K : PySem.W.Frag) : Prop := obW fa fn ex K = waW fn
/-- the part of the heap that is looked at: what the module's names stand for, the defs' code and defaults, the classes' names, the methods, the getters -/
def valR (g : Addr → Option Obj) (a : Addr) : List Addr := match g a with
  | some ⟨_, _, .dict es _, _⟩ => es.toList.flatMap fun e => He.refV e.val
  | _ => []
def defR (g : Addr → Option Obj) (a : Addr) : List Addr := match g a with
  | some ⟨_, _, .func u, _⟩ => He.refV u.code ++ He.refV u.defaults
  | some ⟨_, _, .cls u, _⟩ => [u.ns]
  | some ⟨_, _, .fields vs, _⟩ => vs.toList.flatMap He.refV
  | _ => []
def nsR (g : Addr → Option Obj) (a : Addr) : List Addr := match g a with
  | some ⟨_, _, .cls u, _⟩ => valR g u.ns
  | _ => []
def partL (g : Addr → Option Obj) (l m q : List Addr) : PySem.W.Frag := He.frG g (mainGlobals :: (l ++ (l.flatMap (defR g) ++ (m ++ (m.flatMap (defR g) ++ (q.flatMap (defR g) ++ [cStatics]))))))
/-- the classes are told by their names' places among the module's names -/
def partW (n : Nat) (g : Addr → Option Obj) : PySem.W.Frag :=
  (fun l => (fun m => partL g l m (m.flatMap fun a => match g a with
    | some ⟨_, _, .fields vs, _⟩ => vs.toList.flatMap He.refV
    | _ => [])) (l.flatMap (nsR g))) (valR g mainGlobals)
def seeW (n : Nat) (fa : List He.Fa) (fn : List DefW) (ex : PySem.W.Frag → Bool) (g : Addr → Option Obj) : ObW := obW fa fn ex (partW n g)
def hkW (n : Nat) (fa : List He.Fa) (fn : List DefW) (ex : PySem.W.Frag → Bool) : PySem.W.Hook where
  α := ObW
  obs s := seeW n fa fn ex s.heap.get?
  val _ := waW fn
  says _ h := ∃ L : PySem.W.Frag, L.In h ∧ SayW fa fn ex L
  of _ _ z := ⟨_, He.frG_in, z⟩
  keeps _ _ _ y k := y.elim fun L z => ⟨L, PySem.W.Frag.In.keeps z.1 k, z.2⟩
theorem seeW_eq {n : Nat} {fa : List He.Fa} {fn : List DefW} {ex : PySem.W.Frag → Bool} {g : Addr → Option Obj} {s : Shared} (h : ∀ a, g a = s.heap.get? a) : seeW n fa fn ex g = (hkW n fa fn ex).obs s := by
  obtain rfl : g = s.heap.get? := funext h
  rfl
/-! ### more facts -/
/-- a property: its record, its getter -/
def prB (K : PySem.W.Frag) (c x : Str) : Bool := He.eqO (PySem.W.findIn K (.ref (He.ga K c)) x) (some (some (.ref (He.ma K (He.ga K c) x)))) &&
  (He.eqO (PySem.W.specialIn K (.ref (He.ma K (He.ga K c) x)) "__get__") (some (some (.builtin "property.__get__"))) && (decide (PySem.W.takesIn K (.ref (He.ma K (He.ga K c) x)) = some true) &&
  (match PySem.W.recIn K (He.ma K (He.ga K c) x) "property" with
    | some (.ref g :: _) => PySem.W.keepIn K (.ref g)
    | _ => false)))
/-- a special method -/
def spB (K : PySem.W.Frag) (c x : Str) : Bool := He.eqO (PySem.W.findIn K (.ref (He.ga K c)) x) (some (some (.ref (He.ma K (He.ga K c) x)))) && (PySem.W.isFn K (.ref (He.ma K (He.ga K c) x)) && PySem.W.fnIn K (He.ma K (He.ga K c) x))
/-- isinstance's facts -/
def isB (K : PySem.W.Frag) (c : Str) : Bool := He.eqO (PySem.W.findIn K (.ref (He.ga K c)) "__class__") (some (some (.builtin "object.__class__"))) &&
  (He.eqO (PySem.W.specialIn K (.builtin "object.__class__") "__get__") (some (some (.builtin "getset_descriptor.__get__"))) && (decide (PySem.W.takesIn K (.builtin "object.__class__") = some true) && decide (PySem.W.mroIn K (He.ga K c) (.type "object") = some true)))
/-- a constant of a class, read off the class -/
def cvB (K : PySem.W.Frag) (c f : Str) (v : V) : Bool := PySem.W.readsIn K (He.ga K c) (.type "type") && (He.eqO (PySem.W.specialIn K (.ref (He.ga K c)) "__getattribute__") (some (some (.builtin "type.__getattribute__"))) &&
  (match PySem.W.findCls K (.ref (He.ga K c)) (.type "type") f with
    | some (.val u) => He.relB v u
    | _ => false))
end L2
set_option Elab.async false
set_option linter.all false
set_option maxRecDepth 100000
set_option maxHeartbeats 0
namespace L2
open PySem PySem.Spec PyProof.Rows
/-! Truetouch, the head: the facts, the run of the top. -/
def fa0 : List He.Fa := [.free "tuple", .free "list", .free "len", .free "isinstance", .free "range", .free "enumerate", .free "sorted", .free "sum", .free "int", .free "abs", .free "max", .free "bool", .free "str", .str "LETTERS" "abcdefghijklmnopqrstuvwxyz", .int "MOST_LEVELS" 60, .int "MOST_ENTRIES" 60, .int "MOST_MEMORIES" 4, .int "MOST_STANDINGS" 400, .int "MOST_RANK" (10 ^ 60), .glo "Method", .cls "Method", .glo "Book", .cls "Book", .glo "Conductor", .cls "Conductor", .glo "Outlook", .cls "Outlook", .glo "RoundVerdict", .cls "RoundVerdict", .glo "Touch"]
def fa1 : List He.Fa := [.cls "Touch", .noat "Method" "stage", .noat "Method" "plain", .noat "Method" "calls", .noat "Method" "opening", .noat "Method" "leads", .noat "Method" "row_of_letters", .noat "Method" "moves", .noat "Method" "bodies", .noat "Book" "method", .noat "Book" "entries", .noat "Book" "by_state", .noat "Conductor" "method", .noat "Conductor" "bell", .noat "Conductor" "table", .noat "Outlook" "book", .noat "Outlook" "callings", .noat "Outlook" "ways", .noat "Outlook" "standings", .noat "RoundVerdict" "breach", .noat "RoundVerdict" "holds", .noat "RoundVerdict" "table", .noat "RoundVerdict" "told", .noat "Touch" "method", .noat "Touch" "calling", .noat "Touch" "start", .noat "Touch" "row_of_heads", .noat "Touch" "rows", .glo "is_integer", .glo "flat"]
def fa2 : List He.Fa := [.glo "is_letter", .glo "is_rising", .glo "is_places", .glo "first_row", .glo "times", .glo "place_in", .glo "change_move", .glo "is_sound_row", .glo "deep", .glo "is_sound_change", .glo "_law_rounds", .glo "_law_moved", .glo "_law_is_int", .glo "_law_draw", .glo "_law_mix", .glo "_law_pick", .glo "_law_change_move", .glo "_law_change", .glo "_law_led_change", .glo "_law_kept_last", .glo "_law_row", .glo "_law_letter", .glo "_law_hunting", .glo "_law_wide_world", .glo "_law_world", .glo "_law_letters", .glo "_law_lead_of", .glo "_law_body_of", .glo "_law_moves", .glo "_law_heads"]
def fa3 : List He.Fa := [.glo "_law_rich_world", .glo "_law_table", .glo "_law_wheel", .glo "_law_any_table", .glo "_law_walk", .glo "_law_same", .glo "are_changes", .glo "check_plain", .glo "is_call", .glo "check_calls", .glo "rows_through", .mkr "Method", .glo "check_calling", .glo "told_row", .glo "are_wants", .glo "is_entry", .glo "check_entries", .glo "is_standing", .glo "told_standing", .glo "applies", .mkr "Book", .meth "Book" "ways_from", .meth "Book" "followers", .meth "Book" "is_stuck", .glo "is_table_row", .glo "told_table", .mkr "Conductor", .meth "Conductor" "goes_on", .meth "Conductor" "outcome", .meth "Conductor" "as_book"]
def fa4 : List He.Fa := [.meth "Book" "fan", .meth "Book" "bears", .mkr "Outlook", .glo "ranks_of", .glo "least_loop", .glo "breach_of", .mkr "RoundVerdict", .glo "is_ranked", .glo "is_right_rank", .glo "judge_round", .mkr "Touch", .glo "_law_leads_on", .glo "_law_bears", .glo "_law_is_his", .glo "law"]
def faT : List He.Fa := fa0 ++ (fa1 ++ (fa2 ++ (fa3 ++ (fa4))))
def dw0 : DefW := ⟨.g "is_integer", "is_integer", "is_integer", top 21, []⟩
def dw1 : DefW := ⟨.g "flat", "flat", "flat", top 22, []⟩
def dw2 : DefW := ⟨.g "is_letter", "is_letter", "is_letter", top 24, []⟩
def dw3 : DefW := ⟨.g "is_rising", "is_rising", "is_rising", top 25, []⟩
def dw4 : DefW := ⟨.g "is_places", "is_places", "is_places", top 26, []⟩
def dw5 : DefW := ⟨.g "first_row", "first_row", "first_row", top 28, []⟩
def dw6 : DefW := ⟨.g "times", "times", "times", top 29, []⟩
def dw7 : DefW := ⟨.g "place_in", "place_in", "place_in", top 30, []⟩
def dw8 : DefW := ⟨.g "change_move", "change_move", "change_move", top 31, []⟩
def dw9 : DefW := ⟨.g "is_sound_row", "is_sound_row", "is_sound_row", top 32, []⟩
def dw10 : DefW := ⟨.g "deep", "deep", "deep", top 23, [.int 0]⟩
def dw11 : DefW := ⟨.g "is_sound_change", "is_sound_change", "is_sound_change", top 51, []⟩
def dw12 : DefW := ⟨.g "_law_rounds", "_law_rounds", "_law_rounds", top 77, []⟩
def dw13 : DefW := ⟨.g "_law_moved", "_law_moved", "_law_moved", top 78, []⟩
def dw14 : DefW := ⟨.g "_law_is_int", "_law_is_int", "_law_is_int", top 93, []⟩
def dw15 : DefW := ⟨.g "_law_draw", "_law_draw", "_law_draw", top 74, []⟩
def dw16 : DefW := ⟨.g "_law_mix", "_law_mix", "_law_mix", top 75, []⟩
def dw17 : DefW := ⟨.g "_law_pick", "_law_pick", "_law_pick", top 76, []⟩
def dw18 : DefW := ⟨.g "_law_change_move", "_law_change_move", "_law_change_move", top 79, []⟩
def dw19 : DefW := ⟨.g "_law_change", "_law_change", "_law_change", top 80, []⟩
def dw20 : DefW := ⟨.g "_law_led_change", "_law_led_change", "_law_led_change", top 81, []⟩
def dw21 : DefW := ⟨.g "_law_kept_last", "_law_kept_last", "_law_kept_last", top 85, []⟩
def dw22 : DefW := ⟨.g "_law_row", "_law_row", "_law_row", top 82, []⟩
def dw23 : DefW := ⟨.g "_law_letter", "_law_letter", "_law_letter", top 83, []⟩
def dw24 : DefW := ⟨.g "_law_hunting", "_law_hunting", "_law_hunting", top 84, []⟩
def dw25 : DefW := ⟨.g "_law_wide_world", "_law_wide_world", "_law_wide_world", top 87, []⟩
def dw26 : DefW := ⟨.g "_law_world", "_law_world", "_law_world", top 86, []⟩
def dw27 : DefW := ⟨.g "_law_letters", "_law_letters", "_law_letters", top 88, []⟩
def dw28 : DefW := ⟨.g "_law_lead_of", "_law_lead_of", "_law_lead_of", top 89, []⟩
def dw29 : DefW := ⟨.g "_law_body_of", "_law_body_of", "_law_body_of", top 90, []⟩
def dw30 : DefW := ⟨.g "_law_moves", "_law_moves", "_law_moves", top 91, []⟩
def dw31 : DefW := ⟨.g "_law_heads", "_law_heads", "_law_heads", top 92, []⟩
def dw32 : DefW := ⟨.g "_law_rich_world", "_law_rich_world", "_law_rich_world", top 94, []⟩
def dw33 : DefW := ⟨.g "_law_table", "_law_table", "_law_table", top 95, []⟩
def dw34 : DefW := ⟨.g "_law_wheel", "_law_wheel", "_law_wheel", top 96, []⟩
def dw35 : DefW := ⟨.g "_law_any_table", "_law_any_table", "_law_any_table", top 97, []⟩
def dw36 : DefW := ⟨.g "_law_walk", "_law_walk", "_law_walk", top 98, []⟩
def dw37 : DefW := ⟨.g "_law_same", "_law_same", "_law_same", top 99, []⟩
def dw38 : DefW := ⟨.g "are_changes", "are_changes", "are_changes", top 53, []⟩
def dw39 : DefW := ⟨.g "check_plain", "check_plain", "check_plain", top 54, []⟩
def dw40 : DefW := ⟨.g "is_call", "is_call", "is_call", top 55, []⟩
def dw41 : DefW := ⟨.g "check_calls", "check_calls", "check_calls", top 56, []⟩
def dw42 : DefW := ⟨.g "rows_through", "rows_through", "rows_through", top 57, []⟩
def dw43 : DefW := ⟨.m "Method" "__contains__", "__contains__", "Method.__contains__", inClass (top 58) 8, []⟩
def dw44 : DefW := ⟨.m "Method" "__eq__", "__eq__", "Method.__eq__", inClass (top 58) 11, []⟩
def dw45 : DefW := ⟨.m "Method" "__init__", "__init__", "Method.__init__", inClass (top 58) 1, [.adr (He.dflAt ("Method", some "__init__") 0)]⟩
def dw46 : DefW := ⟨.g "check_calling", "check_calling", "check_calling", top 34, []⟩
def dw47 : DefW := ⟨.g "told_row", "told_row", "told_row", top 35, []⟩
def dw48 : DefW := ⟨.g "are_wants", "are_wants", "are_wants", top 38, []⟩
def dw49 : DefW := ⟨.g "is_entry", "is_entry", "is_entry", top 39, []⟩
def dw50 : DefW := ⟨.g "check_entries", "check_entries", "check_entries", top 40, []⟩
def dw51 : DefW := ⟨.g "is_standing", "is_standing", "is_standing", top 41, []⟩
def dw52 : DefW := ⟨.g "told_standing", "told_standing", "told_standing", top 42, []⟩
def dw53 : DefW := ⟨.g "applies", "applies", "applies", top 43, []⟩
def dw54 : DefW := ⟨.m "Book" "__init__", "__init__", "Book.__init__", inClass (top 44) 1, [.adr (He.dflAt ("Book", some "__init__") 0)]⟩
def dw55 : DefW := ⟨.p "Book" "beginning", "beginning", "Book.beginning", inClass (top 44) 2, []⟩
def dw56 : DefW := ⟨.m "Book" "__len__", "__len__", "Book.__len__", inClass (top 44) 9, []⟩
def dw57 : DefW := ⟨.m "Book" "ways_from", "ways_from", "Book.ways_from", inClass (top 44) 3, []⟩
def dw58 : DefW := ⟨.m "Book" "followers", "followers", "Book.followers", inClass (top 44) 4, []⟩
def dw59 : DefW := ⟨.m "Book" "is_stuck", "is_stuck", "Book.is_stuck", inClass (top 44) 5, []⟩
def dw60 : DefW := ⟨.g "is_table_row", "is_table_row", "is_table_row", top 47, []⟩
def dw61 : DefW := ⟨.g "told_table", "told_table", "told_table", top 48, []⟩
def dw62 : DefW := ⟨.m "Conductor" "__init__", "__init__", "Conductor.__init__", inClass (top 49) 0, []⟩
def dw63 : DefW := ⟨.m "Conductor" "goes_on", "goes_on", "Conductor.goes_on", inClass (top 49) 1, []⟩
def dw64 : DefW := ⟨.m "Conductor" "__call__", "__call__", "Conductor.__call__", inClass (top 49) 4, []⟩
def dw65 : DefW := ⟨.m "Conductor" "outcome", "outcome", "Conductor.outcome", inClass (top 49) 2, [.non]⟩
def dw66 : DefW := ⟨.m "Conductor" "as_book", "as_book", "Conductor.as_book", inClass (top 49) 3, []⟩
def dw67 : DefW := ⟨.m "Book" "fan", "fan", "Book.fan", inClass (top 44) 6, []⟩
def dw68 : DefW := ⟨.m "Book" "bears", "bears", "Book.bears", inClass (top 44) 7, []⟩
def dw69 : DefW := ⟨.m "Outlook" "__init__", "__init__", "Outlook.__init__", inClass (top 61) 0, []⟩
def dw70 : DefW := ⟨.p "Outlook" "stuck", "stuck", "Outlook.stuck", inClass (top 61) 1, []⟩
def dw71 : DefW := ⟨.g "ranks_of", "ranks_of", "ranks_of", top 64, []⟩
def dw72 : DefW := ⟨.g "least_loop", "least_loop", "least_loop", top 65, []⟩
def dw73 : DefW := ⟨.g "breach_of", "breach_of", "breach_of", top 66, []⟩
def dw74 : DefW := ⟨.m "RoundVerdict" "__init__", "__init__", "RoundVerdict.__init__", inClass (top 67) 0, []⟩
def dw75 : DefW := ⟨.m "RoundVerdict" "__bool__", "__bool__", "RoundVerdict.__bool__", inClass (top 67) 1, []⟩
def dw76 : DefW := ⟨.g "is_ranked", "is_ranked", "is_ranked", top 68, []⟩
def dw77 : DefW := ⟨.g "is_right_rank", "is_right_rank", "is_right_rank", top 69, []⟩
def dw78 : DefW := ⟨.g "judge_round", "judge_round", "judge_round", top 70, []⟩
def dw79 : DefW := ⟨.m "Touch" "__init__", "__init__", "Touch.__init__", inClass (top 72) 0, [.non]⟩
def dw80 : DefW := ⟨.p "Touch" "is_round", "is_round", "Touch.is_round", inClass (top 72) 3, []⟩
def dw81 : DefW := ⟨.g "_law_leads_on", "_law_leads_on", "_law_leads_on", top 101, []⟩
def dw82 : DefW := ⟨.g "_law_bears", "_law_bears", "_law_bears", top 100, []⟩
def dw83 : DefW := ⟨.g "_law_is_his", "_law_is_his", "_law_is_his", top 102, []⟩
def dw84 : DefW := ⟨.g "law", "law", "law", top 103, []⟩
def fn0 : List DefW := [dw0, dw1, dw2, dw3, dw4, dw5, dw6, dw7, dw8, dw9, dw10, dw11, dw12, dw13, dw14, dw15, dw16, dw17, dw18, dw19, dw20, dw21, dw22, dw23, dw24, dw25, dw26, dw27, dw28, dw29]
def fn1 : List DefW := [dw30, dw31, dw32, dw33, dw34, dw35, dw36, dw37, dw38, dw39, dw40, dw41, dw42, dw43, dw44, dw45, dw46, dw47, dw48, dw49, dw50, dw51, dw52, dw53, dw54, dw55, dw56, dw57, dw58, dw59]
def fn2 : List DefW := [dw60, dw61, dw62, dw63, dw64, dw65, dw66, dw67, dw68, dw69, dw70, dw71, dw72, dw73, dw74, dw75, dw76, dw77, dw78, dw79, dw80, dw81, dw82, dw83, dw84]
def fnT : List DefW := fn0 ++ (fn1 ++ (fn2))
def exT (K : PySem.W.Frag) : Bool := prB K "Book" "beginning" && (prB K "Outlook" "stuck" && (prB K "Touch" "is_round" && (spB K "Method" "__contains__" && (spB K "Method" "__eq__" && (spB K "Book" "__len__" && (spB K "Conductor" "__call__" && (spB K "RoundVerdict" "__bool__" && (isB K "Method" && (cvB K "Book" "HOME" (.int (-1)))))))))))
def lo0 : List Str := ["_wall", "TouchError", "BadStage", "BadRow", "BadLead", "BadCall", "BadLetter", "BadCalling", "BadBell", "BadTimes", "BadEntry", "BadTable", "TooMany", "Twice", "Unlike", "NoSpot", "NoStanding", "LETTERS", "MOST_LEVELS", "is_integer", "flat", "deep", "is_letter", "is_rising", "is_places", "first_row", "times", "place_in", "change_move", "is_sound_row"]
def lo1 : List Str := ["check_calling", "told_row", "MOST_ENTRIES", "are_wants", "is_entry", "check_entries", "is_standing", "told_standing", "applies", "Book", "MOST_MEMORIES", "is_table_row", "told_table", "Conductor", "is_sound_change", "are_changes", "check_plain", "is_call", "check_calls", "rows_through", "Method", "MOST_STANDINGS", "Outlook", "MOST_RANK", "ranks_of", "least_loop", "breach_of", "RoundVerdict", "is_ranked", "is_right_rank"]
def lo2 : List Str := ["judge_round", "Touch", "_law_draw", "_law_mix", "_law_pick", "_law_rounds", "_law_moved", "_law_change_move", "_law_change", "_law_led_change", "_law_row", "_law_letter", "_law_hunting", "_law_kept_last", "_law_world", "_law_wide_world", "_law_letters", "_law_lead_of", "_law_body_of", "_law_moves", "_law_heads", "_law_is_int", "_law_rich_world", "_law_table", "_law_wheel", "_law_any_table", "_law_walk", "_law_same", "_law_bears", "_law_leads_on"]
def lo3 : List Str := ["_law_is_his"]
def loT : List Str := lo0 ++ (lo1 ++ (lo2 ++ (lo3)))
abbrev RT : PySem.W.OpenRow := PySem.W.OpenLaw.row PySem.Challenge.rw_truetouch_k94_whole_conductor_book
abbrev hkT : PySem.W.Hook := hkW 5 faT fnT exT
def obT (s : PySem.W.SharedT) : ObW := seeW 5 faT fnT exT (HandSHeadRun.getT s)
theorem obT_eq (s : PySem.W.SharedT) : obT s = hkT.obs s.abs := seeW_eq (HandSHeadRun.getT_eq s)
open PySem.W HandSHeadRun in
theorem runA (w : World) (os : OsState) : (endF (stepQ (denQ tabQ) RT.prog w) 20000 RT.prog w os).map (fun s => (looksF RT.prog (boot_heap w.params) s.abs, seenQ (view RT.prog [103]) loT (importedModules RT.prog.main.body) (fun s => xlAt (view RT.prog [103]) [] s && recOk RT.toRowW.records s) s.abs)) = some (true, openGood (view RT.prog [103]) loT) := by
  kernel_rfl
open PySem.W HandSHeadRun in
theorem runB (w : World) (os : OsState) : (endF (stepQ (denQ tabQ) RT.prog w) 20000 RT.prog w os).map obT = some (waW fnT) := by
  kernel_rfl
theorem two_runs {α β γ δ : Type} {o : Option δ} {f : δ → α} {g : δ → β} {k : δ → γ} {a : α} {b : β} {c : γ} (h1 : o.map (fun s => (f s, g s)) = some (a, b)) (h2 : o.map k = some c) : o.map (fun s => (f s, g s, k s)) = some (a, b, c) := by
  cases o with
  | none => cases h1
  | some s =>
    injection h1 with h1
    injection h2 with h2
    injection h1 with h3 h4
    show some (f s, g s, k s) = _
    rw [h3, h4, h2]
theorem runT (w : World) : HandSHeadRun.RunEq RT (PySem.W.view RT.prog [103]) hkT obT 20000 loT w := fun os => two_runs (runA w os) (runB w os)
end L2
set_option Elab.async false
set_option linter.all false
set_option maxRecDepth 100000
set_option maxHeartbeats 4000000
/-! Truetouch: additions to the layer. -/
namespace L2
open PySem PySem.Spec PyProof.Rows Evl

/-! ### heaps -/
/-- tuples and locked things stay -/
def Tp (H H' : Hp) : Prop := (∀ b xs, H b = some (.tup xs) → H' b = some (.tup xs)) ∧ ∀ b o u, H b = some (.frz o u) → H' b = some (.frz o u)
theorem Tp.of {H H' : Hp} (e : Ex H H') : Tp H H' := ⟨fun b xs h => e b _ h, fun b o u h => e b _ h⟩
theorem Tp.refl (H : Hp) : Tp H H := ⟨fun _ _ h => h, fun _ _ _ h => h⟩
theorem Tp.trans {H H1 H2 : Hp} (a : Tp H H1) (b : Tp H1 H2) : Tp H H2 := ⟨fun c xs h => b.1 c xs (a.1 c xs h), fun c o u h => b.2 c o u (a.2 c o u h)⟩
/-- a store at something that is neither -/
def Sft : Option HO → Prop
  | some (.tup _) => False
  | some (.frz _ _) => False
  | _ => True
theorem Tp.upd {H : Hp} {p : Addr} {o : HO} (h : Sft (H p)) : Tp H (upd H p o) := by
  refine ⟨fun b xs e => ?_, fun b ob u e => ?_⟩
  · have ne : b ≠ p := fun z => by subst z; rw [e] at h; exact h
    rw [upd_ne ne]; exact e
  · have ne : b ≠ p := fun z => by subst z; rw [e] at h; exact h
    rw [upd_ne ne]; exact e
theorem Sft.lst {H : Hp} {p : Addr} {xs : List V} (h : H p = some (.lst xs)) : Sft (H p) := by rw [h]; trivial
theorem Sft.none {H : Hp} {p : Addr} (h : H p = Option.none) : Sft (H p) := by rw [h]; trivial
theorem tp_t {K : PySem.W.Frag} {H H' : Hp} {a : Addr} {xs : List V} (e : Tp H H') (h : SqT K H a xs) : SqT K H' a xs := by
  rcases h with (h | ⟨o, h⟩) | h
  · exact .inl (.inl (e.1 _ _ h))
  · exact .inl (.inr ⟨o, e.2 _ _ _ h⟩)
  · exact .inr h

/-! ### data of tuples, numbers, texts: it stays while the tuples stay -/
mutual
/-- no list, no dict within -/
def Flt : PyData → Prop
  | .none | .bool _ | .int _ | .str _ => True
  | .tuple ds => Flts ds
  | .list _ | .dict _ => False
def Flts : List PyData → Prop
  | [] => True
  | d :: ds => Flt d ∧ Flts ds
end
section
variable {K : PySem.W.Frag} {H H' : Hp}
mutual
theorem Dp.tp (e : Tp H H') : ∀ (d : PyData) (v : V), Flt d → Dp K H v d → Dp K H' v d
  | .none, _, _, h => by cases h; exact .non
  | .bool b, _, _, h => by cases h; exact .bl b
  | .int i, _, _, h => by cases h; exact .int i
  | .str x, _, _, h => by cases h; exact .str x
  | .list ds, _, f, h => f.elim
  | .tuple ds, _, f, h => by
    cases h with
    | tup hs ha => exact .tup (tp_t e hs) (DpAll.tp e ds _ f ha)
  | .dict _, _, f, _ => f.elim
theorem DpAll.tp (e : Tp H H') : ∀ (ds : List PyData) (vs : List V), Flts ds → DpAll K H vs ds → DpAll K H' vs ds
  | [], _, _, h => by cases h; exact .nil
  | d :: ds, _, f, h => by
    cases h with
    | cons h1 h2 => exact .cons (Dp.tp e d _ f.1 h1) (DpAll.tp e ds _ f.2 h2)
end
mutual
theorem Dp.ex (e : Ex H H') : ∀ (d : PyData) (v : V), Dp K H v d → Dp K H' v d
  | .none, _, h => by cases h; exact .non
  | .bool b, _, h => by cases h; exact .bl b
  | .int i, _, h => by cases h; exact .int i
  | .str x, _, h => by cases h; exact .str x
  | .list ds, _, h => by
    cases h with
    | lst hs ha => exact .lst (ex_l e hs) (DpAll.ex e ds _ ha)
  | .tuple ds, _, h => by
    cases h with
    | tup hs ha => exact .tup (ex_t e hs) (DpAll.ex e ds _ ha)
  | .dict _, _, h => by cases h
theorem DpAll.ex (e : Ex H H') : ∀ (ds : List PyData) (vs : List V), DpAll K H vs ds → DpAll K H' vs ds
  | [], _, h => by cases h; exact .nil
  | d :: ds, _, h => by
    cases h with
    | cons h1 h2 => exact .cons (Dp.ex e d _ h1) (DpAll.ex e ds _ h2)
end
theorem DpAll.len : ∀ {vs : List V} {ds : List PyData}, DpAll K H vs ds → vs.length = ds.length
  | _, _, .nil => rfl
  | _, _, .cons _ t => congrArg Nat.succ t.len
theorem DpAll.get : ∀ {vs : List V} {ds : List PyData} {i : Nat} {v : V}, DpAll K H vs ds → vs[i]? = some v → ∃ d, ds[i]? = some d ∧ Dp K H v d
  | _, _, _, _, .nil, e => by simp at e
  | _, _, 0, _, .cons h _, e => by simp at e; subst e; exact ⟨_, rfl, h⟩
  | _, _, i + 1, v, .cons _ t, e => by
    obtain ⟨d, h1, h2⟩ := DpAll.get (i := i) (v := v) t (by simpa using e)
    exact ⟨d, by simpa using h1, h2⟩
theorem DpAll.at : ∀ {vs : List V} {ds : List PyData} {i : Nat} {d : PyData}, DpAll K H vs ds → ds[i]? = some d → ∃ v, vs[i]? = some v ∧ Dp K H v d
  | _, _, _, _, .nil, e => by simp at e
  | _, _, 0, _, .cons h _, e => by simp at e; subst e; exact ⟨_, rfl, h⟩
  | _, _, i + 1, d, .cons _ t, e => by
    obtain ⟨v, h1, h2⟩ := DpAll.at (i := i) (d := d) t (by simpa using e)
    exact ⟨v, by simpa using h1, h2⟩
theorem DpAll.app : ∀ {vs ws : List V} {ds es : List PyData}, DpAll K H vs ds → DpAll K H ws es → DpAll K H (vs ++ ws) (ds ++ es)
  | _, _, _, _, .nil, h => h
  | _, _, _, _, .cons h t, h2 => .cons h (DpAll.app t h2)
theorem DpAll.snoc {vs : List V} {ds : List PyData} {v : V} {d : PyData} (h : DpAll K H vs ds) (h2 : Dp K H v d) : DpAll K H (vs ++ [v]) (ds ++ [d]) := h.app (.cons h2 .nil)
theorem DpAll.of : ∀ {vs : List V} {ds : List PyData}, vs.length = ds.length → (∀ (i : Nat) (v : V) (d : PyData), vs[i]? = some v → ds[i]? = some d → Dp K H v d) → DpAll K H vs ds
  | [], [], _, _ => .nil
  | [], _ :: _, h, _ => by cases h
  | _ :: _, [], h, _ => by cases h
  | v :: vs, d :: ds, h, f => .cons (f 0 v d rfl rfl) (DpAll.of (Nat.succ.inj h) fun i x y h1 h2 => f (i + 1) x y h1 h2)
theorem DpAll.ints : ∀ {vs : List V} {ns : List Int}, DpAll K H vs (ns.map PyData.int) → vs = ns.map V.int
  | _, [], h => by cases h; rfl
  | _, n :: ns, h => by
    cases h with
    | cons h1 h2 =>
      cases h1
      rw [DpAll.ints h2]; rfl
theorem DpAll.ofInts : ∀ ns : List Int, DpAll K H (ns.map V.int) (ns.map PyData.int)
  | [] => .nil
  | n :: ns => .cons (.int n) (DpAll.ofInts ns)
theorem DpAll.take : ∀ {vs : List V} {ds : List PyData} (n : Nat), DpAll K H vs ds → DpAll K H (vs.take n) (ds.take n)
  | _, _, 0, _ => .nil
  | _, _, _ + 1, .nil => .nil
  | _, _, n + 1, .cons h t => .cons h (t.take n)
theorem DpAll.drop : ∀ {vs : List V} {ds : List PyData} (n : Nat), DpAll K H vs ds → DpAll K H (vs.drop n) (ds.drop n)
  | _, _, 0, h => h
  | _, _, _ + 1, .nil => .nil
  | _, _, n + 1, .cons _ t => t.drop n
theorem Dp.tupI {v : V} {ds : List PyData} (h : Dp K H v (.tuple ds)) : ∃ a xs, v = .ref a ∧ SqT K H a xs ∧ DpAll K H xs ds := by
  cases h with
  | tup hs ha => exact ⟨_, _, rfl, hs, ha⟩
theorem Dp.intI {v : V} {i : Int} (h : Dp K H v (.int i)) : v = .int i := by cases h; rfl
theorem Dp.strI {v : V} {i : Str} (h : Dp K H v (.str i)) : v = .str i := by cases h; rfl
end
/-- a row of numbers -/
abbrev dRow (r : List Int) : PyData := .tuple (r.map PyData.int)
theorem flts_ints : ∀ ns : List Int, Flts (ns.map PyData.int)
  | [] => trivial
  | _ :: ns => ⟨trivial, flts_ints ns⟩
theorem flt_row (r : List Int) : Flt (dRow r) := flts_ints r
theorem Dp.row {K : PySem.W.Frag} {H : Hp} {v : V} {r : List Int} (h : Dp K H v (dRow r)) : ∃ a, v = .ref a ∧ SqT K H a (r.map V.int) := by
  obtain ⟨a, xs, e, h1, h2⟩ := h.tupI
  rw [DpAll.ints h2] at h1
  exact ⟨a, e, h1⟩
theorem Dp.ofRow {K : PySem.W.Frag} {H : Hp} {a : Addr} {r : List Int} (h : SqT K H a (r.map V.int)) : Dp K H (.ref a) (dRow r) := .tup h (DpAll.ofInts r)
theorem flts_of : ∀ {ds : List PyData}, (∀ d ∈ ds, Flt d) → Flts ds
  | [], _ => trivial
  | d :: _, h => ⟨h d (List.mem_cons_self ..), flts_of fun x hx => h x (List.mem_cons_of_mem _ hx)⟩

/-! ### data whose tuples have no dict of their own -/
mutual
inductive Dt (H : Hp) : V → PyData → Prop
  | non : Dt H .non .none
  | bl (b : Bool) : Dt H (.bl b) (.bool b)
  | int (i : Int) : Dt H (.int i) (.int i)
  | str (x : Str) : Dt H (.str x) (.str x)
  | tup {a : Addr} {o : Obj} {xs : List V} {ds : List PyData} : H a = some (.frz o (.tup xs)) → o.dict = none → DtAll H xs ds → Dt H (.ref a) (.tuple ds)
inductive DtAll (H : Hp) : List V → List PyData → Prop
  | nil : DtAll H [] []
  | cons {v : V} {d : PyData} {vs : List V} {ds : List PyData} : Dt H v d → DtAll H vs ds → DtAll H (v :: vs) (d :: ds)
end
section
variable {K : PySem.W.Frag} {H H' : Hp}
mutual
theorem Dt.dp : ∀ {d : PyData} {v : V}, Dt H v d → Dp K H v d
  | .none, _, h => by cases h; exact .non
  | .bool b, _, h => by cases h; exact .bl b
  | .int i, _, h => by cases h; exact .int i
  | .str x, _, h => by cases h; exact .str x
  | .list ds, _, h => by cases h
  | .tuple ds, _, h => by
    cases h with
    | tup hs _ ha => exact .tup (.inl (.inr ⟨_, hs⟩)) ha.dp
  | .dict _, _, h => by cases h
theorem DtAll.dp : ∀ {ds : List PyData} {vs : List V}, DtAll H vs ds → DpAll K H vs ds
  | [], _, h => by cases h; exact .nil
  | d :: ds, _, h => by
    cases h with
    | cons h1 h2 => exact .cons h1.dp h2.dp
end
mutual
theorem Dt.tp (e : Tp H H') : ∀ {d : PyData} {v : V}, Dt H v d → Dt H' v d
  | .none, _, h => by cases h; exact .non
  | .bool b, _, h => by cases h; exact .bl b
  | .int i, _, h => by cases h; exact .int i
  | .str x, _, h => by cases h; exact .str x
  | .list ds, _, h => by cases h
  | .tuple ds, _, h => by
    cases h with
    | tup hs hd ha => exact .tup (e.2 _ _ _ hs) hd (ha.tp e)
  | .dict _, _, h => by cases h
theorem DtAll.tp (e : Tp H H') : ∀ {ds : List PyData} {vs : List V}, DtAll H vs ds → DtAll H' vs ds
  | [], _, h => by cases h; exact .nil
  | d :: ds, _, h => by
    cases h with
    | cons h1 h2 => exact .cons (h1.tp e) (h2.tp e)
end
theorem Dt.ex {d : PyData} {v : V} (h : Dt H v d) (e : Ex H H') : Dt H' v d := h.tp (Tp.of e)
theorem DtAll.ex {ds : List PyData} {vs : List V} (h : DtAll H vs ds) (e : Ex H H') : DtAll H' vs ds := h.tp (Tp.of e)
theorem DtAll.len {vs : List V} {ds : List PyData} (h : DtAll H vs ds) : vs.length = ds.length := (h.dp (K := [])).len
theorem DtAll.at : ∀ {vs : List V} {ds : List PyData} {i : Nat} {d : PyData}, DtAll H vs ds → ds[i]? = some d → ∃ v, vs[i]? = some v ∧ Dt H v d
  | _, _, _, _, .nil, e => by simp at e
  | _, _, 0, _, .cons h _, e => by simp at e; subst e; exact ⟨_, rfl, h⟩
  | _, _, i + 1, d, .cons _ t, e => by
    obtain ⟨v, h1, h2⟩ := DtAll.at (i := i) (d := d) t (by simpa using e)
    exact ⟨v, by simpa using h1, h2⟩
theorem DtAll.get : ∀ {vs : List V} {ds : List PyData} {i : Nat} {v : V}, DtAll H vs ds → vs[i]? = some v → ∃ d, ds[i]? = some d ∧ Dt H v d
  | _, _, _, _, .nil, e => by simp at e
  | _, _, 0, _, .cons h _, e => by simp at e; subst e; exact ⟨_, rfl, h⟩
  | _, _, i + 1, v, .cons _ t, e => by
    obtain ⟨d, h1, h2⟩ := DtAll.get (i := i) (v := v) t (by simpa using e)
    exact ⟨d, by simpa using h1, h2⟩
theorem DtAll.app : ∀ {vs ws : List V} {ds es : List PyData}, DtAll H vs ds → DtAll H ws es → DtAll H (vs ++ ws) (ds ++ es)
  | _, _, _, _, .nil, h => h
  | _, _, _, _, .cons h t, h2 => .cons h (DtAll.app t h2)
theorem DtAll.snoc {vs : List V} {ds : List PyData} {v : V} {d : PyData} (h : DtAll H vs ds) (h2 : Dt H v d) : DtAll H (vs ++ [v]) (ds ++ [d]) := h.app (.cons h2 .nil)
theorem DtAll.ofInts : ∀ ns : List Int, DtAll H (ns.map V.int) (ns.map PyData.int)
  | [] => .nil
  | n :: ns => .cons (.int n) (DtAll.ofInts ns)
theorem DtAll.of : ∀ {vs : List V} {ds : List PyData}, vs.length = ds.length → (∀ (i : Nat) (v : V) (d : PyData), vs[i]? = some v → ds[i]? = some d → Dt H v d) → DtAll H vs ds
  | [], [], _, _ => .nil
  | [], _ :: _, h, _ => by cases h
  | _ :: _, [], h, _ => by cases h
  | v :: vs, d :: ds, h, f => .cons (f 0 v d rfl rfl) (DtAll.of (Nat.succ.inj h) fun i x y h1 h2 => f (i + 1) x y h1 h2)
theorem Dt.tupI {v : V} {ds : List PyData} (h : Dt H v (.tuple ds)) : ∃ a o xs, v = .ref a ∧ H a = some (.frz o (.tup xs)) ∧ o.dict = none ∧ DtAll H xs ds := by
  cases h with
  | tup hs hd ha => exact ⟨_, _, _, rfl, hs, hd, ha⟩
theorem Dt.intI {v : V} {i : Int} (h : Dt H v (.int i)) : v = .int i := by cases h; rfl
theorem Dt.strI {v : V} {i : Str} (h : Dt H v (.str i)) : v = .str i := by cases h; rfl
end
/-! ### dicts whose keys are nested tuples -/
/-- how a key stands as data -/
structure Emb (κ : Type) where
  key : κ → NestedKey
  inj : ∀ a b, key a = key b → a = b
  tup : ∀ a, ∃ ks, key a = .tup ks
  dep : ∀ a, (key a).depth ≤ 8
  flt : ∀ a, Flt (key a).data
section
variable {X : Cx} {pins : List (Addr × Obj)} {σ : St} {H H' : Hp} {s : Shared}
mutual
theorem nested_of (I : Inv X pins σ H s) : ∀ (k : NestedKey) (v : V) (u : Value), Dp X.K H v k.data → RelV v u → NestedIs s.heap k u
  | .none, _, _, h, r => by cases h; cases r; exact .none
  | .num i, _, _, h, r => by
    cases h
    obtain ⟨t, rfl⟩ := r
    exact .int i t
  | .text x, _, _, h, r => by
    cases h
    obtain ⟨t, rfl⟩ := r
    exact .text x t
  | .tup ks, _, _, h, r => by
    cases h with
    | tup hs ha =>
      cases r
      obtain ⟨its, rv, ⟨o, ho, hc, n, hd⟩, _⟩ := I.tuple hs
      exact .tup ho hc hd (by simpa using nested_all I ks _ its ha rv)
theorem nested_all (I : Inv X pins σ H s) : ∀ (ks : List NestedKey) (vs : List V) (us : List Value), DpAll X.K H vs (NestedKey.datas ks) → Vals vs us → NestedAll s.heap ks us
  | [], _, _, h, r => by cases h; cases r; exact .nil
  | k :: ks, _, _, h, r => by
    cases h with
    | cons h1 h2 =>
      cases r with
      | cons r1 r2 => exact .cons (nested_of I k _ _ h1 r1) (nested_all I ks _ _ h2 r2)
end
end
/-- the object of such a dict -/
def NdObj (P : Program) (w : World) (d : Addr) (xs : List (NestedKey × Addr × Value)) (h : Heap) : Prop := ∃ o es ep, h.get? d = some o ∧ o.ExactDict ∧ o.data = .dict es ep ∧ es.toList = xs.map (entryOfKey (nestedKind P w))
abbrev NdO (P : Program) (w : World) (d : Addr) (xs : List (NestedKey × Addr × Value)) : HO := .ext (NdObj P w d xs)
section
variable {κ : Type} [DecidableEq κ]
abbrev NKV (E : Emb κ) (K : PySem.W.Frag) (H : Hp) : List (κ × V) → List (NestedKey × Addr × Value) → Prop :=
  Paired fun p q => q.1 = E.key p.1 ∧ Dt H (.ref q.2.1) (E.key p.1).data ∧ RelV p.2 q.2.2
theorem NKV.val {E : Emb κ} {K : PySem.W.Frag} {H : Hp} {kvs : List (κ × V)} {xs : List (NestedKey × Addr × Value)} (r : NKV E K H kvs xs) (k : κ) : RelO (valV kvs k) ((atKey xs (E.key k)).map (·.2)) := by
  induction r with
  | nil => exact True.intro
  | @cons p q ps qs h t ih =>
    obtain ⟨h1, _, h2⟩ := h
    by_cases e : p.1 = k
    · have e' : q.1 = E.key k := by rw [h1, e]
      have b : atKey (q :: qs) (E.key k) = some q.2 := by simp [atKey, List.find?_cons, e']
      rw [valV_pos e, b]; exact h2
    · have e' : ¬ q.1 = E.key k := fun z => e (E.inj _ _ (h1.symm.trans z))
      have b : atKey (q :: qs) (E.key k) = atKey qs (E.key k) := by simp [atKey, List.find?_cons, e']
      rw [valV_neg e, b]; exact ih
theorem NKV.repl {E : Emb κ} {K : PySem.W.Frag} {H : Hp} {kvs : List (κ × V)} {xs : List (NestedKey × Addr × Value)} (r : NKV E K H kvs xs) (k : κ) {y : V} {u : Value} (ry : RelV y u) :
    NKV E K H (kvs.map fun kv => if kv.1 = k then (kv.1, y) else kv) (xs.map (putAt (E.key k) u)) := by
  induction r with
  | nil => exact .nil
  | @cons p q ps qs h t ih =>
    rw [List.map_cons, List.map_cons]
    refine .cons ?_ ih
    obtain ⟨h1, h2, h3⟩ := h
    unfold putAt
    by_cases e : p.1 = k
    · rw [if_pos e, if_pos (by rw [h1, e])]; exact ⟨h1, h2, ry⟩
    · rw [if_neg e, if_neg (fun z => e (E.inj _ _ (h1.symm.trans z)))]; exact ⟨h1, h2, h3⟩
theorem NKV.put {E : Emb κ} {K : PySem.W.Frag} {H : Hp} {kvs : List (κ × V)} {xs : List (NestedKey × Addr × Value)} (r : NKV E K H kvs xs) (k : κ) {b : Addr} {y : V} {u : Value} (hb : Dt H (.ref b) (E.key k).data) (ry : RelV y u) :
    NKV E K H (putK kvs k y) (storedH xs (E.key k) b u) := by
  have e : (kvs.any fun kv => decide (kv.1 = k)) = (atKey xs (E.key k)).isSome := by
    rw [valV_any, (r.val k).isSome_eq, Option.isSome_map]
  unfold putK storedH
  rw [e]
  by_cases q : (atKey xs (E.key k)).isSome = true
  · rw [if_pos q, if_pos q]; exact r.repl k ry
  · rw [if_neg q, if_neg q]; exact Paired.snoc r ⟨rfl, hb, ry⟩
theorem NKV.tp {E : Emb κ} {K : PySem.W.Frag} {H H' : Hp} {kvs : List (κ × V)} {xs : List (NestedKey × Addr × Value)} (r : NKV E K H kvs xs) (e : Tp H H') : NKV E K H' kvs xs :=
  Paired.mapP r fun a _ z => ⟨z.1, Dt.tp e z.2.1, z.2.2⟩
theorem NKV.keys {E : Emb κ} {K : PySem.W.Frag} {H : Hp} {kvs : List (κ × V)} {xs : List (NestedKey × Addr × Value)} (r : NKV E K H kvs xs) : xs.map (·.1) = kvs.map fun p => E.key p.1 := by
  induction r with
  | nil => rfl
  | cons h t ih => rw [List.map_cons, List.map_cons, ih, h.1]
/-- at d stands a dict with these keys and values, in the order of insertion -/
def ND (E : Emb κ) (P : Program) (w : World) (K : PySem.W.Frag) (H : Hp) (d : Addr) (kvs : List (κ × V)) : Prop :=
  ∃ xs, H d = some (NdO P w d xs) ∧ (d == sysModules) = false ∧ kvs.length ≤ sizeLine ∧ (xs.map (·.1)).Nodup ∧ NKV E K H kvs xs
/-- .. to be read -/
def NDr (E : Emb κ) (P : Program) (w : World) (K : PySem.W.Frag) (H : Hp) (d : Addr) (kvs : List (κ × V)) : Prop :=
  ∃ xs, Rd H d (NdO P w d xs) ∧ (d == sysModules) = false ∧ kvs.length ≤ sizeLine ∧ (xs.map (·.1)).Nodup ∧ NKV E K H kvs xs
theorem ND.r {E : Emb κ} {P : Program} {w : World} {K : PySem.W.Frag} {H : Hp} {d : Addr} {kvs : List (κ × V)} (h : ND E P w K H d kvs) : NDr E P w K H d kvs := by
  obtain ⟨xs, h1, h2⟩ := h
  exact ⟨xs, .inl h1, h2⟩
theorem ND.ex {E : Emb κ} {P : Program} {w : World} {K : PySem.W.Frag} {H H' : Hp} {d : Addr} {kvs : List (κ × V)} (h : ND E P w K H d kvs) (e : Ex H H') : ND E P w K H' d kvs := by
  obtain ⟨xs, h1, h2, h3, h4, h5⟩ := h
  exact ⟨xs, e _ _ h1, h2, h3, h4, h5.tp (Tp.of e)⟩
/-- it stays while its own object and the tuples stay -/
theorem ND.at {E : Emb κ} {P : Program} {w : World} {K : PySem.W.Frag} {H H' : Hp} {d : Addr} {kvs : List (κ × V)} (h : ND E P w K H d kvs) (e : H' d = H d) (t : Tp H H') : ND E P w K H' d kvs := by
  obtain ⟨xs, h1, h2, h3, h4, h5⟩ := h
  exact ⟨xs, e.trans h1, h2, h3, h4, h5.tp t⟩
theorem ND.sft {E : Emb κ} {P : Program} {w : World} {K : PySem.W.Frag} {H : Hp} {d : Addr} {kvs : List (κ × V)} (h : ND E P w K H d kvs) : Sft (H d) := by
  obtain ⟨xs, h1, _⟩ := h
  rw [h1]; trivial
section
variable {E : Emb κ} {X : Cx} {pins : List (Addr × Obj)} {σ : St} {H H' : Hp} {s : Shared} {d b : Addr} {kvs : List (κ × V)} {k : κ} {y v : V} {u r : Value} {A : Around} {Ee : Value → Shared → Prop}
theorem nd_rd (I : Inv X pins σ H s) (h : NDr E X.prog X.w X.K H d kvs) : (d == sysModules) = false ∧ kvs.length ≤ sizeLine ∧ ∃ xs, NKV E X.K H kvs xs ∧ s.heap.DictOfH (nestedKind X.prog X.w) d xs ∧ Rd H d (NdO X.prog X.w d xs) := by
  obtain ⟨xs, h1, h2, h3, h4, h5⟩ := h
  refine ⟨h2, h3, xs, h5, ?_, h1⟩
  obtain ⟨⟨o, es, ep, e1, e2, e3, e4⟩, _, _⟩ := (show ObjOk X.prog X.w H s.heap d (NdO X.prog X.w d xs) from h1.ok I.hok)
  refine ⟨o, es, ep, e1, e2, e3, e4, ?_, h4⟩
  have all : ∀ {l : List (κ × V)} {m : List (NestedKey × Addr × Value)}, NKV E X.K H l m → ∀ x ∈ m, (nestedKind X.prog X.w).is s.heap x.1 x.2.1 := by
    intro l m q
    induction q with
    | nil => intro x hx; exact nomatch hx
    | @cons p q ps qs hq t ih =>
      intro x hx
      rcases List.mem_cons.mp hx with e | hx
      · subst e
        refine ⟨?_, by rw [hq.1]; exact E.dep _⟩
        rw [hq.1]
        exact nested_of I _ _ _ hq.2.1.dp rfl
      · exact ih x hx
  exact all h5
theorem nk_is (I : Inv X pins σ H s) (h : Dp X.K H (.ref b) (E.key k).data) : (nestedKind X.prog X.w).is s.heap (E.key k) b := ⟨nested_of I _ _ _ h rfl, E.dep k⟩
theorem nk_ref (h : Dp X.K H y (E.key k).data) : ∃ b, y = .ref b := by
  obtain ⟨ks, e⟩ := E.tup k
  rw [e] at h
  obtain ⟨a, _, e, _⟩ := Dp.tupI (show Dp X.K H y (.tuple (NestedKey.datas ks)) from h)
  exact ⟨a, e⟩
theorem nk_room (hu : A.units + 64 < cLine) : (nestedKind X.prog X.w).room A.in1 := by
  show A.units + 1 + 8 < cLine
  omega
theorem n_getItem {Q : Value → Shared → Prop} (hu : A.units + 64 < cLine) (I : Inv X pins σ H s) (g : NDr E X.prog X.w X.K H d kvs) (hk : Dp X.K H y (E.key k).data) (hv : valV kvs k = some v) (ry : RelV y u)
    (h : ∀ w' s', Inv X pins σ H s' → RelV v w' → Q w' s') : wpAny (model X.prog X.w) A (getItem (.ref d) u) Q Ee s := by
  obtain ⟨b, rfl⟩ := nk_ref hk
  cases ry
  obtain ⟨_, _, xs, rel, dd, _⟩ := nd_rd I g
  obtain ⟨w', hw, rw'⟩ := RelO.some_of (v := v) (o := (atKey xs (E.key k)).map (·.2)) (by rw [← hv]; exact rel.val k)
  obtain ⟨p, hp, hp2⟩ := Option.map_eq_some_iff.mp hw
  refine wpAny_getItem_heap (nk_room hu) (nk_is I hk) dd hp ?_
  rw [hp2]
  exact h w' _ (I.tok _) rw'
theorem n_in {Q : Value → Shared → Prop} (hu : A.units + 64 < cLine) (I : Inv X pins σ H s) (g : NDr E X.prog X.w X.K H d kvs) (hk : Dp X.K H y (E.key k).data) (ry : RelV y u) (h : ∀ s', Inv X pins σ H s' → Q (.bool (valV kvs k).isSome) s') :
    wpAny (model X.prog X.w) A (compareOp .In u (.ref d)) Q Ee s := by
  obtain ⟨b, rfl⟩ := nk_ref hk
  cases ry
  obtain ⟨hd, _, xs, rel, dd, _⟩ := nd_rd I g
  refine wpAny_in_heap (nk_room hu) (nk_is I hk) hd dd ?_
  have q := (rel.val k).isSome_eq
  rw [Option.isSome_map] at q
  rw [← q]
  exact h _ (I.tok _)
theorem n_notIn {Q : Value → Shared → Prop} (hu : A.units + 64 < cLine) (I : Inv X pins σ H s) (g : NDr E X.prog X.w X.K H d kvs) (hk : Dp X.K H y (E.key k).data) (ry : RelV y u) (h : ∀ s', Inv X pins σ H s' → Q (.bool (!(valV kvs k).isSome)) s') :
    wpAny (model X.prog X.w) A (compareOp .NotIn u (.ref d)) Q Ee s := by
  obtain ⟨b, rfl⟩ := nk_ref hk
  cases ry
  obtain ⟨hd, _, xs, rel, dd, _⟩ := nd_rd I g
  refine wpAny_notIn_heap (nk_room hu) (nk_is I hk) hd dd ?_
  have q := (rel.val k).isSome_eq
  rw [Option.isSome_map] at q
  rw [← q]
  exact h _ (I.tok _)
theorem n_get2 {dv : V} {Q : Value → Shared → Prop} (hu : A.units + 64 < cLine) (I : Inv X pins σ H s) (g : NDr E X.prog X.w X.K H d kvs) (hk : Dp X.K H y (E.key k).data) (ry : RelV y u) (rd : RelV dv r)
    (h : ∀ w' s', Inv X pins σ H s' → RelV ((valV kvs k).getD dv) w' → Q w' s') : wpAny (model X.prog X.w) A (call (.builtin "dict.get") [.ref d, u, r]) Q Ee s := by
  obtain ⟨b, rfl⟩ := nk_ref hk
  cases ry
  obtain ⟨hd, _, xs, rel, dd, _⟩ := nd_rd I g
  exact call_meetsIn PySem.F.slot_dict_get dd.typeIs PySem.F.entry_dict_get (PySem.F.args_dict_get_3 _ _ _) (meetsH_dict_get_default (nestedKind X.prog X.w) d b hd r) ⟨nk_room hu, E.key k, xs, nk_is I hk, dd, h _ _ (I.tok _) ((rel.val k).getD rd)⟩
theorem nd_ok {h : Heap} {xs : List (NestedKey × Addr × Value)} {P : Program} {w : World} (e : NdObj P w d xs h) : ObjOk P w H h d (NdO P w d xs) := by
  obtain ⟨o, es, ep, e1, e2⟩ := id e
  exact ⟨e, ⟨o, e1⟩, fun h1 h2 ⟨o, es, ep, q1, q2⟩ k => ⟨o, es, ep, k o q1, q2⟩⟩
theorem n_setItem {Q : Unit → Shared → Prop} (hu : A.units + 64 < cLine) (I : Inv X pins σ H s) (g : ND E X.prog X.w X.K H d kvs) (hz : kvs.length < sizeLine) (hk0 : Dt H y (E.key k).data) (ry : RelV y u) (rv : RelV v r)
    (h : ∀ o s', ND E X.prog X.w X.K (upd H d o) d (putK kvs k v) → Inv X pins σ (upd H d o) s' → Q () s') : wpAny (model X.prog X.w) A (setItem (.ref d) u r) Q Ee s := by
  have hk : Dp X.K H y (E.key k).data := hk0.dp
  obtain ⟨b, rfl⟩ := nk_ref hk
  cases ry
  obtain ⟨hd, z, xs, rel, dd, _⟩ := nd_rd I g.r
  have hzx : xs.length ≤ sizeLine := by rw [← Paired.length rel]; exact z
  have hl : (putK kvs k v).length ≤ sizeLine := by have := length_putK kvs k v; omega
  refine wpAny_setItem_heap (hsz := hzx) (nk_room hu) (nk_is I hk) dd fun h' dd' hs => ?_
  obtain ⟨q, es, ep, hq, h2, h3, h4, _, h5⟩ := id dd'
  have new : NdObj X.prog X.w d (storedH xs (E.key k) b r) h' := ⟨q, es, ep, hq, h2, h3, h4⟩
  have rel' : NKV E X.K (upd H d (NdO X.prog X.w d (storedH xs (E.key k) b r))) (putK kvs k v) (storedH xs (E.key k) b r) := (rel.put k hk0 rv).tp (Tp.upd g.sft)
  have mu : Mut (H d) := by obtain ⟨xs, e, _⟩ := g; rw [e]; trivial
  exact h _ _ ⟨_, upd_same, hd, hl, h5, rel'⟩ (d_write I mu hs ⟨q, hq⟩ (nd_ok new))
theorem n_len {Q : Value → Shared → Prop} (I : Inv X pins σ H s) (g : NDr E X.prog X.w X.K H d kvs) (h : ∀ t s', Inv X pins σ H s' → Q (.int kvs.length t) s') : wpAny (model X.prog X.w) A (call (.builtin "len") [.ref d]) Q Ee s := by
  obtain ⟨hd, z, xs, rel, dd, _⟩ := nd_rd I g
  obtain ⟨es, ep, hr, hs, _⟩ := dd.raw
  have e : es.size = kvs.length := by rw [hs]; exact (Paired.length rel).symm
  refine PyProof.Rows.call_len_slot (n := kvs.length) dd.typeIs PySem.F.slot_dict_len (fun Q' hq => call_len_raw hd hr (by rw [e]; exact hq)) (by omega) (by rw [sizeLine_eq] at z; omega) (h _ _ (I.tok _))
theorem n_new {P : Program} {w : World} {h : Heap} (hb : sysModules < h.objs.size) : ObjOk P w H (h.push { cls := .type "dict", data := .dict #[] }) h.objs.size (NdO P w h.objs.size []) :=
  nd_ok ⟨_, #[], 0, Heap.get?_push_size _ rfl, ⟨rfl, rfl, rfl⟩, rfl, rfl⟩
theorem ND.new {P : Program} {w : World} {K : PySem.W.Frag} {p : Addr} (hb : (p == sysModules) = false) : ND E P w K (upd H p (NdO P w p [])) p [] := ⟨[], upd_same, hb, Nat.zero_le _, List.nodup_nil, .nil⟩
end
end
end L2
set_option Elab.async false
set_option linter.all false
set_option maxRecDepth 100000
set_option maxHeartbeats 4000000
/-! Truetouch: more rules. -/
namespace PySem
open Sem (wp)
open AutoSeq1 (wpAny_loadPart')
set_option maxHeartbeats 4000000 in
theorem meets_enumerate_newT (l : Addr) (items : Array Value) (n : Nat) (dct : Option Addr) (sl : Array (Option Value)) :
    Meets (Builtin.«enumerate.__new__» ⟨[.type "enumerate", .ref l], []⟩) (fun _ R s => s.heap.get? l = some { cls := .type "tuple", dict := dct, data := .seq items n, slots := sl } ∧
      R (.ok (.ret (.ref (s.heap.push { cls := .type "tuple_iterator", data := .fields #[.ref l, .int 0 0] }).objs.size)))
        { s with heap := (s.heap.push { cls := .type "tuple_iterator", data := .fields #[.ref l, .int 0 0] }).push { cls := .type "enumerate", data := .fields #[.none, .bool false, .ref s.heap.objs.size, rawInt 0, .none, .none] } }) :=
  .of_wp fun prog w A R s h => by
    obtain ⟨hp, g, d, tk, os⟩ := s; obtain ⟨hl, h⟩ := h
    have hsub := sub_enumerate
    have hL : Heap.IsTuple (Shared.heap ⟨hp, g, d, tk, os⟩) l items := ⟨_, hl, rfl, n, rfl⟩
    wp_walk using wpAny_loadPart' hl
    refine wpAny_stack_any fun st => wpAny_pure ?_
    split
    · rename_i c _ _ _ _ _
      cases (c == Value.type "enumerate")
      · wp_walk using wpAny_loadPart' hl, wpAny_pyIter_tuple hL
        exact ⟨_, rfl, h⟩
      · wp_walk using wpAny_loadPart' hl, wpAny_pyIter_tuple hL
        exact ⟨_, rfl, h⟩
    · wp_walk using wpAny_loadPart' hl, wpAny_pyIter_tuple hL
      exact ⟨_, rfl, h⟩
section
variable {prog : Program} {w : World} {A : Around} {E : Value → Shared → Prop} {s : Shared}
theorem call_enumerate_tup {l : Addr} {items : Array Value} {Q : Value → Shared → Prop} (hL : s.heap.IsTuple l items)
    (h : ∀ h', IsEnum h' (s.heap.objs.size + 1) s.heap.objs.size 0 .none → h'.IsTupleIter s.heap.objs.size l 0 → h'.objs.size = s.heap.objs.size + 2 →
      (∀ b o, s.heap.get? b = some o → h'.get? b = some o) → Q (.ref (s.heap.objs.size + 1)) { s with heap := h' }) :
    wpAny (model prog w) A (call (.type "enumerate") [.ref l]) Q E s := by
  obtain ⟨⟨c, dct, dt, sl⟩, hl, hc, n, hd⟩ := hL
  replace hc : c = .type "tuple" := hc
  replace hd : dt = .seq items n := hd
  subst hc hd
  refine callType_new F.called_enumerate (by decide) (F.typeCall_enumerate_1 _) (F.newCall_enumerate_1 _) (fun obj => F.args_object_init_2 obj _) F.entry_enumerate_new
    (meets_enumerate_newT l items n dct sl) ⟨hl, ?_⟩
  have hz : (s.heap.push { cls := .type "tuple_iterator", data := .fields #[.ref l, .int 0 0] }).objs.size = s.heap.objs.size + 1 := Heap.size_push ..
  show _ ∧ _
  rw [hz]
  have he : IsEnum ((s.heap.push { cls := .type "tuple_iterator", data := .fields #[.ref l, .int 0 0] }).push
      { cls := .type "enumerate", data := .fields #[.none, .bool false, .ref s.heap.objs.size, rawInt 0, .none, .none] }) (s.heap.objs.size + 1) s.heap.objs.size 0 .none := by
    have := Heap.get?_push_size (s.heap.push { cls := .type "tuple_iterator", data := .fields #[.ref l, .int 0 0] })
      (o := { cls := .type "enumerate", data := .fields #[.none, .bool false, .ref s.heap.objs.size, rawInt 0, .none, .none] }) rfl
    rw [hz] at this; exact this
  refine ⟨⟨_, he, rfl⟩, h _ he ⟨_, Heap.get?_push_of_some _ (Heap.get?_push_size _ rfl), rfl, rfl⟩ (by rw [Heap.size_push, hz]) fun b o x => Heap.get?_push_of_some _ (Heap.get?_push_of_some _ x)⟩
end
end PySem

namespace L2
open PySem PySem.Spec PyProof.Rows Evl

/-! ### enumerate(tuple), enumerate(text) -/
def Iet (K : PySem.W.Frag) (a : Addr) : It :=
  ⟨fun i H => ∃ (xs : List V) (x : V), SqT K H a xs ∧ xs[i]? = some x, fun i H v H' => ∃ T x, v = .ref T ∧ H T = none ∧ H' = upd H T (.tup [.int (i : Nat), x]) ∧ ∀ xs, SqT K H a xs → xs[i]? = some x, fun i H => ∃ xs : List V, SqT K H a xs ∧ xs.length = i⟩
theorem turn_enumT {P : Program} {w : World} {K : PySem.W.Frag} {elts : List Expr} {kk : Nat} {tpos : Pos} (a e it : Addr) :
    Turn P w K (.Tuple elts kk tpos) (Iet K a) [e, it] e (fun i h => (∃ old, IsEnum h e it ((i : Nat) : Int) old) ∧ h.IsTupleIter it a i ∧ e ≠ it) where
  mem := by simp
  obj := fun i h st b hb => by
    obtain ⟨⟨old, he⟩, ⟨o, ho, hc, hd⟩, _⟩ := st
    have e' : b = e ∨ b = it := by simpa using hb
    rcases e' with z | z
    · rw [z]; exact ⟨_, he, fun v q => nomatch q⟩
    · rw [z]; exact ⟨o, ho, fun v q => by rw [hd] at q; cases q⟩
  keep := fun i h h' st k => let ⟨⟨old, he⟩, hi, hne⟩ := st; ⟨⟨old, k e (by simp) _ he⟩, hi.at fun o q => k it (by simp) o q, hne⟩
  item := by
    intro X hP hw hK hc i pins s σ H E I hf st hg
    subst hP hw hK
    obtain ⟨⟨old, he⟩, hit, hne⟩ := st
    obtain ⟨xs, x, hq, hx⟩ := hg
    obtain ⟨its, rv, p, hz⟩ := I.tuple hq
    obtain ⟨u, hu, ru⟩ := rv.get hx
    have hel : e < s.heap.objs.size := Heap.lt_size he
    have hil : it < s.heap.objs.size := by obtain ⟨_, q, _⟩ := hit; exact Heap.lt_size q
    have hae : e ≠ a := fun z => by
      obtain ⟨o1, h1, h2, n, h3⟩ := id p
      have he' := he
      unfold IsEnum at he'
      rw [z, h1] at he'
      cases he'; cases h3
    have hai : a ≠ it := fun z => by
      obtain ⟨o1, h1, h2, n, h3⟩ := id p
      obtain ⟨o2, g1, g2, g3⟩ := id hit
      rw [z, g1] at h1
      cases h1
      rw [g3] at h3; cases h3
    have hlt : i < its.toArray.size := by
      have := (List.getElem?_eq_some_iff.mp hu).1
      simpa using this
    refine wpAny_pyNext_enum_itemC (Draws.tuple (A := X.A.in1) (I.ok.hd hc) it a hai its.toArray) he ⟨hit, p⟩ hlt hne (by simp [hne, hae]) fun y h' tk hy ho hit' hT hsz hk => ?_
    have ey : y = u := by
      have : its[i]? = some y := by simpa using hy
      rw [hu] at this; exact (Option.some.inj this).symm
    subst ey
    refine ⟨_, rfl, wpAny_letOwnedTupleGo_enum (s := { s with heap := h', toks := tk + 1 }) ho fun h'' he' sb => ?_⟩
    have hT2 : h''.get? s.heap.objs.size = some { cls := .type "tuple", data := .seq #[.int i tk, y] } := (sb.2 _ (Nat.ne_of_gt hel)).trans hT
    have new : ObjOk X.prog X.w (upd H s.heap.objs.size (.tup [.int (i : Nat), x])) h'' s.heap.objs.size (.tup [.int (i : Nat), x]) :=
      ⟨by show 2 ≤ sizeLine; decide, [.int i tk, y], .cons ⟨_, rfl⟩ (.cons ru .nil), ⟨_, hT2, rfl, _, rfl⟩⟩
    have I1 : Inv X pins σ (upd H s.heap.objs.size (.tup [.int (i : Nat), x])) { s with heap := h'', toks := tk + 1 } :=
      I.turnedNew (ch := [e, it]) (fun b ob hb q => (sb.2 b (fun z => hb (by simp [z]))).trans (hk b ob (fun z => hb (by simp [z])) (fun z => hb (by simp [z])) q)) hf (Nat.le_refl _) new
    refine ⟨.ref s.heap.objs.size, _, I1, rfl, ⟨_, x, rfl, I.hok.fresh (Nat.le_refl _), rfl, fun ys hy => by rw [I.tuple_inj hy hq]; exact hx⟩, ⟨⟨y, ?_⟩, hit'.1.at fun o q => (sb.2 it (Ne.symm hne)).trans q, hne⟩, fun b hb => ?_⟩
    · have e1 : ((i + 1 : Nat) : Int) = (i : Int) + 1 := by omega
      rw [e1]; exact he'
    · have hb' : b < s.heap.objs.size := by
        have e' : b = e ∨ b = it := by simpa using hb
        rcases e' with z | z
        · rw [z]; exact hel
        · rw [z]; exact hil
      rw [upd_ne (Nat.ne_of_lt hb')]
      exact (hf b hb).1
  done := by
    intro X hP hw hK hc i pins s σ H E I hf st hg
    subst hP hw hK
    obtain ⟨⟨old, he⟩, hit, hne⟩ := st
    obtain ⟨xs, hq, hx⟩ := hg
    obtain ⟨its, rv, p, hz⟩ := I.tuple hq
    obtain ⟨f0, f1, f2, f3, f4, f5⟩ := hf it (by simp)
    have hl := rv.length
    have hai : a ≠ it := fun z => by
      obtain ⟨o1, h1, h2, n, h3⟩ := id p
      obtain ⟨o2, g1, g2, g3⟩ := id hit
      rw [z, g1] at h1
      cases h1
      rw [g3] at h3; cases h3
    have ie : i = its.toArray.size := by simp; omega
    have D := Draws.tuple (prog := X.prog) (w := X.w) (A := X.A.in1) (I.ok.hd hc) it a hai its.toArray
    subst ie
    exact wpAny_pyNext_enum_endD D he ⟨hit, p⟩ fun h' eb => ⟨rfl, I.turned (t' := s.toks) (fun b o hb q => eb b o hb q) f0 f1 f3 f4 f5⟩
  self := fun A i s Q E st h => let ⟨⟨_, he⟩, _⟩ := st; wpAny_pyIter_enum he h

def iEnumT (K : PySem.W.Frag) (ta : TA) : TI := fun σ H R => ta σ H fun vs H1 => ∃ a xs, vs = [.ref a] ∧ SqT K H1 a xs ∧ R (Iet K a) H1
theorem pi_enumT {X : Cx} {e : Expr} {ta : TA} {p pos tpos : Pos} {elts : List Expr} {kk : Nat} (hg : Gl X "enumerate") (hm : X.mg "enumerate" = none) (ha : PA X [e] ta) (hs : starEach [e] X.env = [(false, eval e X.env)] := by rfl) :
    PI X (.Tuple elts kk tpos) (.Call (.Name "enumerate" p) [e] [] pos) (iEnumT X.K ta) := by
  refine ⟨fun pins s σ H R I h => ?_⟩
  refine Call_ (ld_blt I hg hm boot_enumerate (PyProof.Rows.callWith_type1 (thn (ha.run pos pins s σ H _ I h) fun us s1 ⟨vs, H1, I1, r1, q1⟩ => ?_) hs rfl))
  obtain ⟨a, xs, ex, hq, q⟩ := q1
  subst ex
  cases r1 with
  | cons r rr =>
    cases rr
    cases r
    obtain ⟨its, rv, p', hz⟩ := I1.tuple hq
    refine call_enumerate_tup p' fun h' he hit hsz hk => wpAny_pyIter_enum he ?_
    have I2 : Inv X pins σ H1 { s1 with heap := h' } := I1.kept (t' := s1.toks) hk
    refine ⟨s1.heap.objs.size + 1, [s1.heap.objs.size + 1, s1.heap.objs.size], _, _, H1, rfl, I2, turn_enumT a (s1.heap.objs.size + 1) s1.heap.objs.size, ⟨⟨.none, he⟩, hit, Nat.succ_ne_self _⟩, fun b hb => ?_, q⟩
    have e' : b = s1.heap.objs.size + 1 ∨ b = s1.heap.objs.size := by simpa using hb
    have hle : s1.heap.objs.size ≤ b := by
      rcases e' with z | z
      · rw [z]; exact Nat.le_add_right _ _
      · rw [z]; exact Nat.le_refl _
    exact I1.fpOk hle (I1.hok.fresh hle)
theorem walk_enumT {K : PySem.W.Frag} {a : Addr} {xs : List V} : Walk (Iet K a) xs.length (fun H => SqT K H a xs) (YPair (fun i => some (.int (i : Nat))) (fun i => xs[i]?)) := by
  refine ⟨fun i _ hi q => ⟨xs, xs[i], q, by simp [hi]⟩, fun _ q => ⟨xs, q, rfl⟩, fun i H v H' _ q y => ?_⟩
  obtain ⟨T, x, h1, h2, h3, h4⟩ := y
  exact ⟨T, .int (i : Nat), x, h1, h2, h3, rfl, h4 xs q⟩
/-- enumerate(text) -/
def Ies (z : Str) : It :=
  ⟨fun i _ => i < z.cps.size, fun i H v H' => ∃ T c, v = .ref T ∧ H T = none ∧ z.cps[i]? = some c ∧ H' = upd H T (.tup [.int (i : Nat), .str ⟨#[c]⟩]), fun i _ => i = z.cps.size⟩
theorem turn_enumS {P : Program} {w : World} {K : PySem.W.Frag} {elts : List Expr} {kk : Nat} {tpos : Pos} (z : Str) (t : Tok) (e it : Addr) :
    Turn P w K (.Tuple elts kk tpos) (Ies z) [e, it] e (fun i h => (∃ old, IsEnum h e it ((i : Nat) : Int) old) ∧ h.IsStrIter it (strIterType z) z t i ∧ e ≠ it) where
  mem := by simp
  obj := fun i h st b hb => by
    obtain ⟨⟨old, he⟩, ⟨o, ho, hc, hd⟩, _⟩ := st
    have e' : b = e ∨ b = it := by simpa using hb
    rcases e' with z | z
    · rw [z]; exact ⟨_, he, fun v q => nomatch q⟩
    · rw [z]; exact ⟨o, ho, fun v q => by rw [hd] at q; cases q⟩
  keep := fun i h h' st k => let ⟨⟨old, he⟩, ⟨o, ho, r⟩, hne⟩ := st; ⟨⟨old, k e (by simp) _ he⟩, ⟨o, k it (by simp) o ho, r⟩, hne⟩
  item := by
    intro X hP hw hK hc i pins s σ H E I hf st hg
    subst hP hw hK
    obtain ⟨⟨old, he⟩, hit, hne⟩ := st
    have hel : e < s.heap.objs.size := Heap.lt_size he
    have hil : it < s.heap.objs.size := by obtain ⟨_, q, _⟩ := hit; exact Heap.lt_size q
    refine wpAny_pyNext_enum_itemC (Draws.text (A := X.A.in1) (I.ok.hd hc) it z t) he hit hg hne (by simp [hne]) fun y h' tk hy ho hit' hT hsz hk => ?_
    obtain ⟨c, u, hcx, rfl⟩ := hy
    refine ⟨_, rfl, wpAny_letOwnedTupleGo_enum (s := { s with heap := h', toks := tk + 1 }) ho fun h'' he' sb => ?_⟩
    have hT2 : h''.get? s.heap.objs.size = some { cls := .type "tuple", data := .seq #[.int i tk, .str ⟨#[c]⟩ u] } := (sb.2 _ (Nat.ne_of_gt hel)).trans hT
    have new : ObjOk X.prog X.w (upd H s.heap.objs.size (.tup [.int (i : Nat), .str ⟨#[c]⟩])) h'' s.heap.objs.size (.tup [.int (i : Nat), .str ⟨#[c]⟩]) :=
      ⟨by show 2 ≤ sizeLine; decide, [.int i tk, .str ⟨#[c]⟩ u], .cons ⟨_, rfl⟩ (.cons ⟨_, rfl⟩ .nil), ⟨_, hT2, rfl, _, rfl⟩⟩
    have I1 : Inv X pins σ (upd H s.heap.objs.size (.tup [.int (i : Nat), .str ⟨#[c]⟩])) { s with heap := h'', toks := tk + 1 } :=
      I.turnedNew (ch := [e, it]) (fun b ob hb q => (sb.2 b (fun z => hb (by simp [z]))).trans (hk b ob (fun z => hb (by simp [z])) (fun z => hb (by simp [z])) q)) hf (Nat.le_refl _) new
    obtain ⟨oi, hoi, cc, dd⟩ := id hit'
    refine ⟨.ref s.heap.objs.size, _, I1, rfl, ⟨_, c, rfl, I.hok.fresh (Nat.le_refl _), hcx, rfl⟩, ⟨⟨.str ⟨#[c]⟩ u, ?_⟩, ⟨oi, (sb.2 it (Ne.symm hne)).trans hoi, cc, dd⟩, hne⟩, fun b hb => ?_⟩
    · have e1 : ((i + 1 : Nat) : Int) = (i : Int) + 1 := by omega
      rw [e1]; exact he'
    · have hb' : b < s.heap.objs.size := by
        have e' : b = e ∨ b = it := by simpa using hb
        rcases e' with z | z
        · rw [z]; exact hel
        · rw [z]; exact hil
      rw [upd_ne (Nat.ne_of_lt hb')]
      exact (hf b hb).1
  done := by
    intro X hP hw hK hc i pins s σ H E I hf st hg
    subst hP hw hK
    obtain ⟨⟨old, he⟩, hit, hne⟩ := st
    obtain ⟨f0, f1, f2, f3, f4, f5⟩ := hf it (by simp)
    have D := Draws.text (prog := X.prog) (w := X.w) (A := X.A.in1) (I.ok.hd hc) it z t
    have ie : i = z.cps.size := hg
    subst ie
    exact wpAny_pyNext_enum_endD D he hit fun h' eb => ⟨rfl, I.turned (t' := s.toks) (fun b o hb q => eb b o hb q) f0 f1 f3 f4 f5⟩
  self := fun A i s Q E st h => let ⟨⟨_, he⟩, _⟩ := st; wpAny_pyIter_enum he h
def iEnumS (ta : TA) : TI := fun σ H R => ta σ H fun vs H1 => ∃ z, vs = [.str z] ∧ R (Ies z) H1
theorem pi_enumS {X : Cx} {e : Expr} {ta : TA} {p pos tpos : Pos} {elts : List Expr} {kk : Nat} (hg : Gl X "enumerate") (hm : X.mg "enumerate" = none) (ha : PA X [e] ta) (hs : starEach [e] X.env = [(false, eval e X.env)] := by rfl) :
    PI X (.Tuple elts kk tpos) (.Call (.Name "enumerate" p) [e] [] pos) (iEnumS ta) := by
  refine ⟨fun pins s σ H R I h => ?_⟩
  refine Call_ (ld_blt I hg hm boot_enumerate (PyProof.Rows.callWith_type1 (thn (ha.run pos pins s σ H _ I h) fun us s1 ⟨vs, H1, I1, r1, q1⟩ => ?_) hs rfl))
  obtain ⟨z, ex, q⟩ := q1
  subst ex
  cases r1 with
  | cons r rr =>
    cases rr
    obtain ⟨t, rfl⟩ := r
    refine call_enumerate_str fun h' he hit hsz hk => wpAny_pyIter_enum he ?_
    have I2 : Inv X pins σ H1 { s1 with heap := h' } := I1.kept (t' := s1.toks) hk
    refine ⟨s1.heap.objs.size + 1, [s1.heap.objs.size + 1, s1.heap.objs.size], _, _, H1, rfl, I2, turn_enumS z t (s1.heap.objs.size + 1) s1.heap.objs.size, ⟨⟨.none, he⟩, hit, Nat.succ_ne_self _⟩, fun b hb => ?_, q⟩
    have e' : b = s1.heap.objs.size + 1 ∨ b = s1.heap.objs.size := by simpa using hb
    have hle : s1.heap.objs.size ≤ b := by
      rcases e' with z | z
      · rw [z]; exact Nat.le_add_right _ _
      · rw [z]; exact Nat.le_refl _
    exact I1.fpOk hle (I1.hok.fresh hle)
theorem walk_enumS {z : Str} : Walk (Ies z) z.cps.size (fun _ => True) (fun i H v H' => ∃ T c, v = .ref T ∧ H T = none ∧ z.cps[i]? = some c ∧ H' = upd H T (.tup [.int (i : Nat), .str ⟨#[c]⟩])) :=
  ⟨fun _ _ hi _ => hi, fun _ _ => rfl, fun _ _ _ _ _ _ y => y⟩

section
variable {X : Cx}
/-! ### d[k], k in d, d[k] = v, d.get(k, x) whatever the keys -/
inductive XGet (P : Program) (w : World) (K : PySem.W.Frag) (H : Hp) (a : Addr) (y : V) : Option V → Prop
  | d {r} : DGet H a y r → XGet P w K H a y r
  | n {κ : Type} [DecidableEq κ] {E : Emb κ} {kvs : List (κ × V)} {k : κ} : NDr E P w K H a kvs → Dp K H y (E.key k).data → XGet P w K H a y (valV kvs k)
theorem nd_type {κ : Type} [DecidableEq κ] {E : Emb κ} {pins : List (Addr × Obj)} {σ : St} {H : Hp} {s : Shared} {d : Addr} {kvs : List (κ × V)} (I : Inv X pins σ H s) (g : NDr E X.prog X.w X.K H d kvs) : s.TypeIs (.ref d) "dict" := by
  obtain ⟨_, _, xs, _, dd, _⟩ := nd_rd I g
  exact dd.typeIs
def rIxDd (P : Program) (w : World) (K : PySem.W.Frag) : R2 := fun x y H Q => ∃ a v, x = .ref a ∧ XGet P w K H a y (some v) ∧ Q v H
theorem tail_of {prog : Program} {w : World} {A : Around} {E : Value → Shared → Prop} {s : Shared} {value slice : Expr} {o i : Value} {T id : String} {Q : Value → Shared → Prop} (hT : s.TypeIs o T)
    (hl : typeLookup (.type T) "__getitem__" = pure (some (.builtin id))) (h : wpAny (model prog w) A (getItem o i) Q E s)
    (hs : subscripted slice false o i = operate [o, i] (getItem o i)) : wpAny (model prog w) A (subscriptTail value slice o i) Q E s := by
  unfold subscriptTail
  refine wpAny_bind ?_
  rw [getitemInPython_of_ne hT.not_modules]
  refine wpAny_bind (wpAny_specialOf hT hl ?_)
  have fin : wpAny (model prog w) A (subscripted slice false o i) (fun r s₃ => wpAny (model prog w) A (letTemporaryGo value o r >>= fun _ => pure r) Q E s₃) E s := by
    rw [hs]
    exact wpAny_operating (wpAny_mono h (fun r s₃ h₃ => wpAny_bind (wpAny_letTemporaryGo (wpAny_pure h₃))) fun _ _ x => x)
  first
    | exact wpAny_pure (wpAny_bind fin)
    | exact wpAny_bind (wpAny_pure (wpAny_bind fin))
    | exact wpAny_bind fin
theorem ix_D (hu : X.A.units + 64 < cLine) : IxR X (rIxDd X.prog X.w X.K) := by
  intro value slice pins s σ H x y v u Q I rx ry h hs
  obtain ⟨a, z, rfl, g, q⟩ := h
  cases rx
  generalize hz : some z = oz at g
  cases g with
  | d g =>
    subst hz
    exact tail_of (dict_typeIs I g) PySem.F.slot_dict_getitem.lookup (d_getItem (by omega) I g ry fun w' s' I' r' => ⟨z, H, I', r', q⟩) hs
  | n g hk => exact tail_of (nd_type I g) PySem.F.slot_dict_getitem.lookup (n_getItem hu I g hk hz.symm ry fun w' s' I' r' => ⟨z, H, I', r', q⟩) hs
/-- a subscript of a list, a tuple, a text, a dict -/
@[irreducible] def rIxA (P : Program) (w : World) (K : PySem.W.Frag) : R2 := fun x y H Q => rIxL K x y H Q ∨ rIxT K x y H Q ∨ rIxS x y H Q ∨ rIxDd P w K x y H Q
theorem ix_A {P : Program} {w : World} {K : PySem.W.Frag} (hu : X.A.units + 64 < cLine) (hP : X.prog = P := by rfl) (hw : X.w = w := by rfl) (hK : X.K = K := by rfl) : IxR X (rIxA P w K) := by
  subst hP hw hK
  unfold rIxA
  exact ix_list.or (ix_tup.or (ix_str.or (ix_D hu)))
def rInD (P : Program) (w : World) (K : PySem.W.Frag) : R2 := fun x y H Q => ∃ a o, y = .ref a ∧ XGet P w K H a x o ∧ Q (.bl o.isSome) H
def rNotInD (P : Program) (w : World) (K : PySem.W.Frag) : R2 := fun x y H Q => ∃ a o, y = .ref a ∧ XGet P w K H a x o ∧ Q (.bl (!o.isSome)) H
theorem op_inD (hu : X.A.units + 64 < cLine) : OpR X (compareOp .In) (rInD X.prog X.w X.K) := by
  intro pins s σ H x y v u Q I rx ry h
  obtain ⟨a, o, rfl, g, q⟩ := h
  cases ry
  cases g with
  | d g => exact d_in (by omega) I g rx fun s' I' => ⟨.bl _, H, I', rfl, q⟩
  | n g hk => exact n_in hu I g hk rx fun s' I' => ⟨.bl _, H, I', rfl, q⟩
theorem op_notInD (hu : X.A.units + 64 < cLine) : OpR X (compareOp .NotIn) (rNotInD X.prog X.w X.K) := by
  intro pins s σ H x y v u Q I rx ry h
  obtain ⟨a, o, rfl, g, q⟩ := h
  cases ry
  cases g with
  | d g => exact d_notIn (by omega) I g rx fun s' I' => ⟨.bl _, H, I', rfl, q⟩
  | n g hk => exact n_notIn hu I g hk rx fun s' I' => ⟨.bl _, H, I', rfl, q⟩
@[irreducible] def rInA (P : Program) (w : World) (K : PySem.W.Frag) : R2 := fun x y H Q => rIn K false x y H Q ∨ (∃ i j, x = .str i ∧ y = .str j ∧ Q (.bl (!(Builtin.Str.occurrences j i 0 j.length 1).isEmpty)) H) ∨ rInD P w K x y H Q
@[irreducible] def rNotInA (P : Program) (w : World) (K : PySem.W.Frag) : R2 := fun x y H Q => rIn K true x y H Q ∨ (∃ i j, x = .str i ∧ y = .str j ∧ Q (.bl (!(!(Builtin.Str.occurrences j i 0 j.length 1).isEmpty))) H) ∨ rNotInD P w K x y H Q
theorem op_inA {P : Program} {w : World} {K : PySem.W.Frag} (hu : X.A.units + 64 < cLine) (hP : X.prog = P := by rfl) (hw : X.w = w := by rfl) (hK : X.K = K := by rfl) : OpR X (compareOp .In) (rInA P w K) := by
  subst hP hw hK
  unfold rInA
  exact op_in_seq.or (op_in_str.or (op_inD hu))
theorem op_notInA {P : Program} {w : World} {K : PySem.W.Frag} (hu : X.A.units + 64 < cLine) (hP : X.prog = P := by rfl) (hw : X.w = w := by rfl) (hK : X.K = K := by rfl) : OpR X (compareOp .NotIn) (rNotInA P w K) := by
  subst hP hw hK
  unfold rNotInA
  exact op_notIn_seq.or (op_notIn_str.or (op_notInD hu))
/-- d.get(k, x) -/
@[irreducible] def rGet2 (P : Program) (w : World) (K : PySem.W.Frag) : V → List V → Hp → VK → Prop := fun x xs H Q => ∃ a y z o, x = .ref a ∧ xs = [y, z] ∧ XGet P w K H a y o ∧ Q (o.getD z) H
theorem mt_get2 {P : Program} {w : World} {K : PySem.W.Frag} (hu : X.A.units + 64 < cLine) (hP : X.prog = P := by rfl) (hw : X.w = w := by rfl) (hK : X.K = K := by rfl) : MtR X "dict.get" (rGet2 P w K) := by
  subst hP hw hK
  unfold rGet2
  intro pins s σ H x xs v us Q I rx rs h
  obtain ⟨a, y, z, o, rfl, rfl, g, q⟩ := h
  cases rx
  obtain ⟨u1, u2, rfl, r1, r2⟩ := vals2 rs
  cases g with
  | d g => exact d_get2 (by omega) I g r1 r2 fun w' s' I' r' => ⟨_, H, I', r', q⟩
  | n g hk => exact n_get2 hu I g hk r1 r2 fun w' s' I' r' => ⟨_, H, I', r', q⟩
/-- a dict for a store -/
inductive XPut (P : Program) (w : World) (K : PySem.W.Frag) (H : Hp) (a : Addr) (y v : V) (R : Hp → Prop) : Prop
  | d {H'} : DPut H a y v H' → R H' → XPut P w K H a y v R
  | n {κ : Type} [DecidableEq κ] {E : Emb κ} {kvs : List (κ × V)} {k : κ} : ND E P w K H a kvs → kvs.length < sizeLine → Dt H y (E.key k).data →
      (∀ o, ND E P w K (upd H a o) a (putK kvs k v) → R (upd H a o)) → XPut P w K H a y v R
theorem set_D (hu : X.A.units + 64 < cLine) : PSet X (fun o i v H Q => ∃ a, o = .ref a ∧ XPut X.prog X.w X.K H a i v Q) := by
  intro pins s σ H o i v ov iv u Q I ro ri rv h
  obtain ⟨a, rfl, g⟩ := h
  cases ro
  cases g with
  | d g q => exact d_setItem (by omega) I g ri rv fun s' I' => ⟨_, I', q⟩
  | n g hz hk q => exact n_setItem hu I g hz hk ri rv fun o s' g' I' => ⟨_, I', q o g'⟩
theorem set_or {t t' : TSet} (h : PSet X t) (h' : PSet X t') : PSet X (fun o i v H Q => t o i v H Q ∨ t' o i v H Q) := by
  intro pins s σ H o i v ov iv u Q I ro ri rv q
  rcases q with q | q
  · exact h pins s σ H o i v ov iv u Q I ro ri rv q
  · exact h' pins s σ H o i v ov iv u Q I ro ri rv q
@[irreducible] def rSetA (P : Program) (w : World) (K : PySem.W.Frag) : TSet := fun o i v H Q => rSetL o i v H Q ∨ ∃ a, o = .ref a ∧ XPut P w K H a i v Q
theorem set_A {P : Program} {w : World} {K : PySem.W.Frag} (hu : X.A.units + 64 < cLine) (hP : X.prog = P := by rfl) (hw : X.w = w := by rfl) (hK : X.K = K := by rfl) : PSet X (rSetA P w K) := by
  subst hP hw hK
  unfold rSetA
  exact set_or set_list (set_D hu)
/-! ### {} -/
/-- {} with nested keys to come -/
def tDNewN (X : Cx) : TE := fun _ H Q => ∀ p, H p = none → (p == sysModules) = false → Q (.ref p) (upd H p (NdO X.prog X.w p []))
theorem pe_dnewN {pos : Pos} : PE X (.Dict [] [] pos) (tDNewN X) := ⟨fun pins s σ H Q I h =>
  wpAny_Dict_empty ⟨.ref s.heap.objs.size, _, I.laid (a := s.heap.objs.size) (o := NdO X.prog X.w s.heap.objs.size []) (t' := s.toks) (fun _ _ q => Heap.get?_push_of_some _ q) (Nat.le_refl _) (n_new I.big), rfl, h _ (I.hok.fresh (Nat.le_refl _)) (beq_eq_false_iff_ne.mpr (Ne.symm (Nat.ne_of_lt I.big)))⟩⟩
/-! ### len -/
theorem call_len_nd : CallR X (.builtin "len") (fun xs H Q => ∃ (κ : Type) (_ : DecidableEq κ) (E : Emb κ) (a : Addr) (kvs : List (κ × V)), xs = [.ref a] ∧ NDr E X.prog X.w X.K H a kvs ∧ Q (.int kvs.length) H) := by
  intro pins s σ H xs us Q I r h
  obtain ⟨κ, _, E, a, kvs, rfl, g, q⟩ := h
  obtain ⟨u, rfl, rx⟩ := vals1 r
  cases rx
  exact n_len I g fun t s' I' => ⟨.int kvs.length, H, I', ⟨t, rfl⟩, q⟩
/-! ### sorted of no item or one -/
def rSort1 (K : PySem.W.Frag) : List V → Hp → VK → Prop := fun vs H Q => ∃ (a : Addr) (xs : List V), vs = [V.ref a] ∧ SqL K H a xs ∧ xs.length < 2 ∧ ∀ p, H p = none → Q (.ref p) (upd H p (.lst xs))
theorem cr_sort1 : CallR X (.builtin "sorted") (rSort1 X.K) := by
  intro pins s σ H vs us Q I r h
  obtain ⟨a, xs, rfl, hs, hx, q⟩ := h
  obtain ⟨its, rv, hl, hz⟩ := I.list hs
  obtain ⟨u, rfl, ru⟩ := vals1 r
  obtain rfl : u = Value.ref a := ru
  have e := rv.length
  have O : SrtO.Swo (fun _ _ : Value => false) := ⟨fun x y h => absurd (show false = true from h) Bool.false_ne_true, fun x y z h1 h2 => rfl⟩
  refine SrtO.sorted_ord O hl.isList (by omega) (fun h2 => absurd h2 (by omega)) fun out _ hb => ?_
  have eo : out = its := by
    have hp := hb.perm
    have hlen := hp.length_eq
    match its, out, hp, (by omega : its.length < 2) with
    | [], out, hp, _ => exact List.Perm.eq_nil hp
    | [x], out, hp, _ => exact List.perm_singleton.mp hp
    | _ :: _ :: _, _, _, h => simp at h; omega
  rw [eo]
  obtain ⟨n, hn⟩ := sortedAll_at s.heap its its.toArray
  exact ⟨.ref (s.heap.objs.size + 1), _, I.laid (a := s.heap.objs.size + 1) (o := .lst xs) (t' := s.toks) (fun b o e => sortedAll_old e) (Nat.le_succ _) ⟨hz, its, n, rv, hn⟩, rfl, q _ (I.hok.fresh (Nat.le_succ _))⟩
/-! ### tuple.index of a number -/
theorem flat_ints (ys : List Int) : (ys.map V.int).all flatV = true := by
  rw [List.all_map]
  exact List.all_eq_true.mpr fun _ _ => rfl
theorem mt_tup_indexI : MtR X "tuple.index" (fun x xs H Q => ∃ p, ∃ ys : List Int, ∃ z j, x = .ref p ∧ xs = [.int z] ∧ SqT X.K H p (ys.map V.int) ∧ ys[j]? = some z ∧ (∀ m, m < j → ys[m]? ≠ some z) ∧ Q (.int (j : Nat)) H) := by
  intro pins s σ H x xs v us Q I rx rs h
  obtain ⟨p, ys, z, j, rfl, rfl, hq, hy, hno, q⟩ := h
  cases rx
  obtain ⟨u, rfl, t, rfl⟩ := vals1 rs
  obtain ⟨its, r, pl, hz⟩ := I.tuple hq
  obtain ⟨⟨cls, dd, dt, sl⟩, ho, hc, n, hd⟩ := pl
  simp only at hc hd
  subst hc
  subst hd
  have hl : its.toArray.size = ys.length := by rw [List.size_toArray, ← r.length, List.length_map]
  have hj : j < its.toArray.size := by rw [hl]; exact (List.getElem?_eq_some_iff.mp hy).1
  have at' : ∀ (m : Nat) (hm : m < its.toArray.size), ∃ y t', ys[m]? = some y ∧ its.toArray[m] = Value.int y t' := fun m hm => by
    have hm' : m < ys.length := by rw [← hl]; exact hm
    obtain ⟨w, hw, t', hw'⟩ := r.get (i := m) (x := .int ys[m]) (by simp [hm'])
    refine ⟨ys[m], t', List.getElem?_eq_getElem hm', ?_⟩
    have e := (List.getElem?_eq_some_iff.mp hw).2
    rw [← hw', ← e]
    simp
  refine call_meets PySem.F.slot_tuple_index ⟨_, ho, rfl⟩ PySem.F.entry_tuple_index (PySem.F.args_tuple_index_2 _ _) (TI.tuple_indexAt p its.toArray n dd sl (.int z t) (eqU (.int z)) j hj ?_ ?_)
    ⟨ho, fun w hw => mem_eqAt (x := .int z) ⟨t, rfl⟩ rfl r (flat_ints ys) w (by simpa using hw), ⟨.int (j : Nat), H, I.tok _, ⟨_, rfl⟩, q⟩⟩
  · obtain ⟨y, t', h1, h2⟩ := at' j hj
    rw [hy] at h1
    cases h1
    rw [h2]
    show (z == z) = true
    exact beq_self_eq_true z
  · intro m hm hmj
    obtain ⟨y, t', h1, h2⟩ := at' m hm
    rw [h2]
    show (y == z) = false
    exact beq_eq_false_iff_ne.mpr fun e => hno m hmj (e ▸ h1)
/-! ### a + b, a * b, a == b of several kinds -/
@[irreducible] def rAddA (K : PySem.W.Frag) : R2 := fun x y H Q => rI0 (fun i j => .int (i + j)) x y H Q ∨ (∃ i j, x = .str i ∧ y = .str j ∧ i.length + j.length ≤ sizeLine ∧ Q (.str (i ++ j)) H) ∨ rCat x y H Q ∨ rCatA K x y H Q
theorem op_addA {K : PySem.W.Frag} (hK : X.K = K := by rfl) : OpR X (binaryOp .Add) (rAddA K) := by
  subst hK
  unfold rAddA
  exact op_add.or (op_add_str.or (op_cat.or op_catA))
@[irreducible] def rEqA (K : PySem.W.Frag) : R2 := fun x y H Q => rEq x y H Q ∨ rEqD K x y H Q
@[irreducible] def rNeA (K : PySem.W.Frag) : R2 := fun x y H Q => rNe x y H Q ∨ rNeD K x y H Q
theorem op_eqA {K : PySem.W.Frag} (hu : X.A.units + 64 < cLine) (hK : X.K = K := by rfl) : OpR X (compareOp .Eq) (rEqA K) := by
  subst hK
  unfold rEqA
  exact op_eq.or (op_eqD hu)
theorem op_neA {K : PySem.W.Frag} (hu : X.A.units + 64 < cLine) (hK : X.K = K := by rfl) : OpR X (compareOp .NotEq) (rNeA K) := by
  subst hK
  unfold rNeA
  exact op_ne.or (op_neD hu)
def CPowX (i j : Int) : Prop := 0 ≤ j ∧ (Builtin.Int.intBits i : Int) * j ≤ 2 ^ 27
theorem op_powX : OpR X (binaryOp .Pow) (rI CPowX fun i j => .int (i ^ j.toNat)) := opI fun _ _ _ _ _ _ _ hc q => pow_int hc.1 hc.2 q
end
end L2
set_option Elab.async false
set_option linter.all false
set_option maxRecDepth 100000
set_option maxHeartbeats 4000000
/-! Truetouch: defs, classes, special methods. -/
namespace L2
open PySem PySem.Spec PyProof.Rows Evl

/-! ### a def of the module, as its callers see it -/
structure GDef (P : Program) (w : World) (K : PySem.W.Frag) (mg : Str → Option Value) (base : Heap) (x : Str) (k : Nat) (ps : List Str) (dvs : List V) (sp : Sp) : Prop where
  ex : ∃ f fd ds, FnOk P w K mg base CX0 k f fd ps sp ∧ mg x = some (.ref f) ∧ PySem.W.keepIn K (.ref f) = true ∧ Binds K fd ps ds ∧ Vals dvs ds
/-- a method -/
structure MDef (P : Program) (w : World) (K : PySem.W.Frag) (mg : Str → Option Value) (base : Heap) (C : Addr) (m : Str) (k : Nat) (ps : List Str) (dvs : List V) (sp : Sp) : Prop where
  ex : ∃ f fd ds, FnOk P w K mg base CX0 k f fd ps sp ∧ Cls K C ∧ Meth K C m f ∧ Binds K fd ps ds ∧ Vals dvs ds
/-- a class that is made -/
structure CDef (P : Program) (w : World) (K : PySem.W.Frag) (mg : Str → Option Value) (base : Heap) (x : Str) (C : Addr) (k : Nat) (ps : List Str) (dvs : List V) (sp : Sp) : Prop where
  ex : ∃ f fd ds, FnOk P w K mg base CX0 k f fd ps sp ∧ mg x = some (.ref C) ∧ Mk K C f ∧ Binds K fd ps ds ∧ Vals dvs ds
/-- a property -/
structure PDef (P : Program) (w : World) (K : PySem.W.Frag) (mg : Str → Option Value) (base : Heap) (C : Addr) (m : Str) (k : Nat) (sp : Sp) : Prop where
  ex : ∃ p g fd, FnOk P w K mg base CX0 k g fd ["self"] sp ∧ Cls K C ∧ PropOf K C m p g ∧ Binds K fd ["self"] []
/-- a special method, by the class -/
structure SDef (P : Program) (w : World) (K : PySem.W.Frag) (mg : Str → Option Value) (base : Heap) (C : Addr) (m : Str) (k : Nat) (ps : List Str) (sp : Sp) : Prop where
  ex : ∃ f fd, FnOk P w K mg base CX0 k f fd ps sp ∧ PySem.W.findIn K (.ref C) m = some (some (.ref f)) ∧ PySem.W.isFn K (.ref f) = true ∧ Binds K fd ps [] ∧ PySem.W.fnIn K f = true
section
variable {X : Cx} {k j : Nat} {C : Addr} {ps : List Str} {sp : Sp} {dvs : List V} {x m : Str} {p pos apos : Pos} {e o : Expr} {es : List Expr} {ta : TE} {t : TA}
theorem pe_g (D : GDef X.prog X.w X.K X.mg X.base x k ps dvs sp) (hr : Room j X.A) (ha : PA X (e :: es) t) (hj : k ≤ j := by decide) (hg : Gl X x := by exact rfl)
    (hdb : (x == ("__debug__" : Str)) = false := by decide) (he : starEach (e :: es) X.env = (false, eval e X.env) :: starEach es X.env := by rfl) (hpl : (backTo pos (starEach es X.env)).any (·.1) = false := by rfl) :
    PE X (.Call (.Name x p) (e :: es) [] pos) (tCall sp dvs E0 t) := by
  obtain ⟨f, fd, ds, F, hm, hk, hb, hd⟩ := D.ex
  exact pe_call F (hr.mono hj) hg hm hk hb hd pass0 ha hdb he hpl
theorem pe_md {pl : Sem Bool} (D : MDef X.prog X.w X.K X.mg X.base C m k ps dvs sp) (hr : Room j X.A) (ho : PE X o ta) (ha : PA X (e :: es) t) (hj : k ≤ j := by decide)
    (hst : starEach (e :: es) X.env = (false, eval e X.env) :: starEach es X.env := by rfl) (hpl : (backTo pos (starEach es X.env)).any (·.1) = false := by rfl)
    (ht : eval (.Call (.Attribute o m apos) (e :: es) [] pos) X.env = (do
      let ov ← eval o X.env
      standAt apos.atName
      let (f, first) ← holding [ov] (getMethod ov m pl)
      callWith pos f first (backTo pos (starEach (e :: es) X.env)) (backToKw pos (keywordEach [] X.env))) := by rfl) :
    PE X (.Call (.Attribute o m apos) (e :: es) [] pos) (tMeth C m sp dvs E0 ta t) := by
  obtain ⟨f, fd, ds, F, c, hm, hb, hd⟩ := D.ex
  exact pe_meth (pl := pl) ho c hm F (hr.mono hj) hb hd pass0 ha hst hpl ht
theorem pe_md0 {pl : Sem Bool} (D : MDef X.prog X.w X.K X.mg X.base C m k ps dvs sp) (hr : Room j X.A) (ho : PE X o ta) (hj : k ≤ j := by decide)
    (ht : eval (.Call (.Attribute o m apos) [] [] pos) X.env = (do
      let ov ← eval o X.env
      standAt apos.atName
      let (f, first) ← holding [ov] (getMethod ov m pl)
      callWith pos f first (backTo pos (starEach [] X.env)) (backToKw pos (keywordEach [] X.env))) := by rfl) :
    PE X (.Call (.Attribute o m apos) [] [] pos) (tMeth C m sp dvs E0 ta tNil) := by
  obtain ⟨f, fd, ds, F, c, hm, hb, hd⟩ := D.ex
  exact pe_meth0 (pl := pl) ho c hm F (hr.mono hj) hb hd pass0 ht
theorem pe_c (D : CDef X.prog X.w X.K X.mg X.base x C k ps dvs sp) (hr : Room j X.A) (ha : PA X (e :: es) t) (hj : k + 1 ≤ j := by decide) (hg : Gl X x := by exact rfl)
    (hdb : (x == ("__debug__" : Str)) = false := by decide) (he : starEach (e :: es) X.env = (false, eval e X.env) :: starEach es X.env := by rfl) (hpl : (backTo pos (starEach es X.env)).any (·.1) = false := by rfl) :
    PE X (.Call (.Name x p) (e :: es) [] pos) (tMake C sp dvs E0 t) := by
  obtain ⟨f, fd, ds, F, hm, mk, hb, hd⟩ := D.ex
  exact pe_make mk F (hr.mono hj) hg hm hb hd pass0 ha hdb he hpl
theorem pe_p (D : PDef X.prog X.w X.K X.mg X.base C m k sp) (hr : Room j X.A) (he : PE X e ta) (hj : k + 1 ≤ j := by decide) (hab : attributeBase e m X.env (eval e X.env) = eval e X.env := by rfl) :
    PE X (.Attribute e m pos) (tProp C sp [] E0 ta) := by
  obtain ⟨p, g, fd, F, c, hp, hb⟩ := D.ex
  exact pe_prop he c hp F (hr.mono hj) hb .nil pass0 hab

/-! ### special methods -/
theorem relRef (a : Addr) : RelV (V.ref a) (Value.ref a) := rfl
theorem run_at1 {pins : List (Addr × Obj)} {σ : St} {H : Hp} {s : Shared} {Q : VK} {us : List Value} {vs : List V} {f : Addr} {fd : FuncData} {Ee : Value → Shared → Prop} (F : FnOk X.prog X.w X.K X.mg X.base CX0 k f fd ps sp) (hr : Room (k + 1) X.A) (hb : Binds X.K fd ps [])
    (I : Inv X pins σ H s) (r : Vals vs us) (h : sp vs H Q E0) : wpAny (model X.prog X.w) X.A.in1 (call (.ref f) us) (EP X pins σ Q) Ee s := by
  have hl : us.length = ps.length := by rw [← r.length]; exact F.len _ _ _ _ h
  have hbb : BindsTo s fd ⟨us, []⟩ (ps.zip us) := by
    have z := hb s us I.kIn (by rw [List.append_nil]; exact hl)
    rw [List.append_nil] at z
    exact z
  refine wpAny_call (codeAny_mono (F.run X.A.in1 X.stack s H ⟨us, []⟩ us vs Q E0 hr.in1 I.env0.in1 hbb r h) fun r s' hq => ?_)
  cases r with
  | error e => exact False.elim hq
  | ok fl =>
    cases fl with
    | ret u => exact I.after hq
    | next => exact False.elim hq
    | brk => exact False.elim hq
    | cont => exact False.elim hq
theorem run_at0 {pins : List (Addr × Obj)} {σ : St} {H : Hp} {s : Shared} {Q : VK} {us : List Value} {vs : List V} {f : Addr} {fd : FuncData} {Ee : Value → Shared → Prop} (F : FnOk X.prog X.w X.K X.mg X.base CX0 k f fd ps sp) (hr : Room k X.A) (hb : Binds X.K fd ps [])
    (I : Inv X pins σ H s) (r : Vals vs us) (h : sp vs H Q E0) : wpAny (model X.prog X.w) X.A (call (.ref f) us) (EP X pins σ Q) Ee s := by
  have hl : us.length = ps.length := by rw [← r.length]; exact F.len _ _ _ _ h
  have hbb : BindsTo s fd ⟨us, []⟩ (ps.zip us) := by
    have z := hb s us I.kIn (by rw [List.append_nil]; exact hl)
    rw [List.append_nil] at z
    exact z
  refine wpAny_call (codeAny_mono (F.run X.A X.stack s H ⟨us, []⟩ us vs Q E0 hr I.env0 hbb r h) fun r s' hq => ?_)
  cases r with
  | error e => exact False.elim hq
  | ok fl =>
    cases fl with
    | ret u => exact I.after hq
    | next => exact False.elim hq
    | brk => exact False.elim hq
    | cont => exact False.elim hq
/-- x in o, by o's own __contains__ -/
theorem op_inO (D : SDef X.prog X.w X.K X.mg X.base C "__contains__" k ps sp) (hr : Room j X.A) (hj : k ≤ j := by decide) :
    OpR X (compareOp .In) (fun x y H Q => ∃ a dx fs, y = .ref a ∧ H a = some (.ins C dx fs) ∧ sp [.ref a, x] H (fun v H' => ∃ b, v = .bl b ∧ Q (.bl b) H') E0) := by
  obtain ⟨f, fd, F, hs, hf, hb, _⟩ := D.ex
  intro pins s σ H x y v u Q I rx ry h
  obtain ⟨a, dx, fs, rfl, ha, q⟩ := h
  cases ry
  obtain ⟨mA, J, _⟩ := ins_get I.hok ha
  obtain ⟨od, J, _⟩ := J.look
  obtain ⟨m, hF⟩ := I.fr
  refine PySem.W.in_K hF I.ok.mod.kin J hs hf (thn (run_at0 (Ee := X.xe) F (hr.mono hj) hb I (.cons (relRef a) (.cons rx .nil)) q) fun r s' z => ?_)
  obtain ⟨w', H', I', rw', b, rfl, q⟩ := z
  cases rw'
  exact wpAny_truthy_bool ⟨.bl b, H', I', rfl, q⟩
theorem op_notInO (D : SDef X.prog X.w X.K X.mg X.base C "__contains__" k ps sp) (hr : Room j X.A) (hj : k ≤ j := by decide) :
    OpR X (compareOp .NotIn) (fun x y H Q => ∃ a dx fs, y = .ref a ∧ H a = some (.ins C dx fs) ∧ sp [.ref a, x] H (fun v H' => ∃ b, v = .bl b ∧ Q (.bl (!b)) H') E0) := by
  obtain ⟨f, fd, F, hs, hf, hb, _⟩ := D.ex
  intro pins s σ H x y v u Q I rx ry h
  obtain ⟨a, dx, fs, rfl, ha, q⟩ := h
  cases ry
  obtain ⟨mA, J, _⟩ := ins_get I.hok ha
  obtain ⟨od, J, _⟩ := J.look
  obtain ⟨m, hF⟩ := I.fr
  refine PySem.W.notIn_K hF I.ok.mod.kin J hs hf (thn (run_at0 (Ee := X.xe) F (hr.mono hj) hb I (.cons (relRef a) (.cons rx .nil)) q) fun r s' z => ?_)
  obtain ⟨w', H', I', rw', b, rfl, q⟩ := z
  cases rw'
  exact wpAny_truthy_bool ⟨.bl (!b), H', I', rfl, q⟩
/-- len(o), by o's own __len__ -/
theorem call_lenO (D : SDef X.prog X.w X.K X.mg X.base C "__len__" k ps sp) (hr : Room j X.A) (hj : k + 1 ≤ j := by decide) :
    CallR X (.builtin "len") (fun xs H Q => ∃ a dx fs, xs = [.ref a] ∧ H a = some (.ins C dx fs) ∧ sp [.ref a] H (fun v H' => ∃ n : Int, v = .int n ∧ 0 ≤ n ∧ n < 2 ^ 63 ∧ Q (.int n) H') E0) := by
  obtain ⟨f, fd, F, hs, hf, hb, _⟩ := D.ex
  intro pins s σ H xs us Q I r h
  obtain ⟨a, dx, fs, rfl, ha, q⟩ := h
  obtain ⟨u, rfl, ru⟩ := vals1 r
  cases ru
  obtain ⟨mA, J, _⟩ := ins_get I.hok ha
  obtain ⟨od, J, _⟩ := J.look
  obtain ⟨m, hF⟩ := I.fr
  refine PySem.W.len_K hF I.ok.mod.kin J hs hf (thn (run_at1 (Ee := X.xe) F (hr.mono hj) hb I (.cons (relRef a) .nil) q) fun r s' z => ?_)
  obtain ⟨w', H', I', rw', n, rfl, h0, h1, q⟩ := z
  obtain ⟨t, rfl⟩ := rw'
  exact ⟨⟨h0, h1⟩, .int n, H', I'.tok _, ⟨_, rfl⟩, q⟩
/-- truth by o's own __bool__ -/
theorem tru_O (D : SDef X.prog X.w X.K X.mg X.base C "__bool__" k ps sp) (hr : Room j X.A) (hj : k ≤ j := by decide) :
    TruR X (fun x H Q => ∃ a dx fs, x = .ref a ∧ H a = some (.ins C dx fs) ∧ sp [.ref a] H (fun v H' => ∃ b, v = .bl b ∧ Q b H') E0) := by
  obtain ⟨f, fd, F, hs, hf, hb, _⟩ := D.ex
  intro pins s σ H x v Q I rx h
  obtain ⟨a, dx, fs, rfl, ha, q⟩ := h
  cases rx
  obtain ⟨mA, J, _⟩ := ins_get I.hok ha
  obtain ⟨od, J, _⟩ := J.look
  obtain ⟨m, hF⟩ := I.fr
  refine PySem.W.truthy_K hF I.ok.mod.kin J hs hf (thn (run_at0 (Ee := X.xe) F (hr.mono hj) hb I (.cons (relRef a) .nil) q) fun r s' z => ?_)
  obtain ⟨w', H', I', rw', b, rfl, q⟩ := z
  cases rw'
  exact ⟨H', I', q⟩
/-- a == b, by a's own __eq__ -/
theorem op_eqO (D : SDef X.prog X.w X.K X.mg X.base C "__eq__" k ps sp) (hr : Room j X.A) (hj : k ≤ j := by decide) :
    OpR X (compareOp .Eq) (fun x y H Q => ∃ a b dx dy fs gs, x = .ref a ∧ y = .ref b ∧ H a = some (.ins C dx fs) ∧ H b = some (.ins C dy gs) ∧ sp [.ref a, .ref b] H (fun v H' => ∃ c, v = .bl c ∧ Q v H') E0) := by
  obtain ⟨f, fd, F, hs, hf, hb, _⟩ := D.ex
  intro pins s σ H x y v u Q I rx ry h
  obtain ⟨a, b, dx, dy, fs, gs, rfl, rfl, ha, hb', q⟩ := h
  cases rx
  cases ry
  obtain ⟨mA, J, _⟩ := ins_get I.hok ha
  obtain ⟨mB, J', _⟩ := ins_get I.hok hb'
  obtain ⟨od, J, _⟩ := J.look
  obtain ⟨od', J', _⟩ := J'.look
  obtain ⟨m, hF⟩ := I.fr
  refine PySem.W.cmp_K (op := .Eq) (tb := .ref C) hr.units0 hF I.ok.mod.kin J J'.type (by simp [PySem.W.notFirst]) hs hf (thn (run_at0 (Ee := X.xe) F (hr.mono hj) hb I (.cons (relRef a) (.cons (relRef b) .nil)) q) fun r s' z => ?_)
  obtain ⟨w', H', I', rw', c, rfl, q⟩ := z
  cases rw'
  exact ⟨.bl c, H', I', rfl, q⟩
/-- o(e, ..) -/
theorem pe_co {fe : Expr} {tf : TE} (D : SDef X.prog X.w X.K X.mg X.base C "__call__" k ps sp) (hr : Room j X.A) (hf : PE X fe tf) (ha : PA X (e :: es) t) (hj : k ≤ j := by decide)
    (ht : eval (.Call fe (e :: es) [] pos) X.env = (do callWith pos (← eval fe X.env) [] (backTo pos (starEach (e :: es) X.env)) (backToKw pos (keywordEach [] X.env))) := by rfl)
    (he : starEach (e :: es) X.env = (false, eval e X.env) :: starEach es X.env := by rfl) (hpl : (backTo pos (starEach es X.env)).any (·.1) = false := by rfl) :
    PE X (.Call fe (e :: es) [] pos) (fun σ H Q => tf σ H fun y H1 => ∃ a, y = V.ref a ∧ t σ H1 fun vs H2 => ∃ dx fs, H2 a = some (.ins C dx fs) ∧ sp (V.ref a :: vs) H2 Q E0) := by
  obtain ⟨f, fd, F, hs, hfn, hb, hfi⟩ := D.ex
  refine ⟨fun pins s σ H Q I h => ?_⟩
  refine Call_ (thn (hf.run pins s σ H _ I h) fun u s1 ⟨y, H1, I1, ry, a, ey, q⟩ => ?_) ht
  subst ey
  obtain rfl : u = Value.ref a := ry
  refine StX.callO_with (thn (ha.run pos pins s1 σ H1 _ I1 q) fun us s2 ⟨vs, H2, I2, r, dx, fs, hi, q2⟩ => ?_) he hpl
  obtain ⟨mA, J, _⟩ := ins_get I2.hok hi
  obtain ⟨od, J, _⟩ := J.look
  refine ⟨⟨C, _, _, J, rfl⟩, wpAny_call (PySem.W.kco_code I2.kIn J rfl hs hfn hfi ?_)⟩
  have hl : (Value.ref a :: us).length = ps.length := by
    have e1 := r.length
    have e2 := F.len _ _ _ _ q2
    rw [List.length_cons] at e2 ⊢
    omega
  have hbb : BindsTo s2 fd ⟨Value.ref a :: us, []⟩ (ps.zip (Value.ref a :: us)) := by
    have z := hb s2 (Value.ref a :: us) I2.kIn (by rw [List.append_nil]; exact hl)
    rw [List.append_nil] at z
    exact z
  refine codeAny_mono (F.run X.A X.stack s2 H2 ⟨Value.ref a :: us, []⟩ (Value.ref a :: us) (V.ref a :: vs) Q E0 (hr.mono hj) I2.env0 hbb (.cons rfl r) q2) fun r s' hq => ?_
  cases r with
  | error e => exact False.elim hq
  | ok fl =>
    cases fl with
    | ret u => exact I2.after hq
    | next => exact False.elim hq
    | brk => exact False.elim hq
    | cont => exact False.elim hq
end
end L2
set_option Elab.async false
set_option linter.all false
set_option maxRecDepth 100000
set_option maxHeartbeats 4000000
/-! Truetouch: truth, walks and displays of dicts with nested keys; is; isinstance; texts repeated. -/
namespace PySem
section
variable {prog : Program} {w : World} {A : Around} {E : Value → Shared → Prop} {s : Shared}
theorem len_body_raw {d : Addr} {es : Array DictEntry} {ep : Nat} {Q : Value → Shared → Prop} (hd : (d == sysModules) = false) (hm : s.heap.DictRaw d es ep) (hfit : (es.size : Int) < 2 ^ 63)
    (h : Q (.int es.size (s.toks + 1)) { s with toks := s.toks + 1 + 1 }) : wpAny (model prog w) A (Builtin.«len» ⟨[.ref d], []⟩) (fun fin s' => ∃ r, fin = .done (.ret r) ∧ Q r s') E s := by
  unfold Builtin.«len»
  refine wpAny_bind (m := oneArg "len" _) (wpAny_pure ?_)
  refine wpAny_bind (m := callSpecial? (.ref d) (Str.ofString "__len__")) (wpAny_callSpecial?_slot (name := Str.ofString "__len__") hm.typeIs F.slot_dict_len
    (call_meetsIn F.slot_dict_len hm.typeIs F.entry_dict_len (F.args_dict_len_1 _) (meets_dict_len_raw d hd) ⟨es, ep, hm, ?_⟩))
  show wpAny _ _ _ _ _ { s with toks := s.toks + 1 }
  refine wpAny_bind (wpAny_holding (wpAny_pure ?_))
  refine wpAny_bind (wpAny_letGo ?_)
  show wpAny _ _ (if ((es.size : Nat) : Int) < 0 then _ else _) _ _ _
  rw [if_neg (by omega)]
  show wpAny _ _ (if ((es.size : Nat) : Int) ≥ 2 ^ 63 then _ else _) _ _ _
  rw [if_neg (by omega)]
  exact wpAny_bind (wpAny_mkInt (wpAny_pure ⟨_, rfl, h⟩))
theorem truthy_raw {d : Addr} {es : Array DictEntry} {ep : Nat} {Q : Bool → Shared → Prop} (hd : (d == sysModules) = false) (hm : s.heap.DictRaw d es ep) (hfit : (es.size : Int) < 2 ^ 63)
    (h : Q ((es.size : Int) != 0) { s with toks := s.toks + 1 + 1 }) : wpAny (model prog w) A (truthy (.ref d)) Q E s := by
  have key : wpAny (model prog w) A (runValue (.builtin "len" ⟨[.ref d], []⟩)) (fun r s' => r = .int es.size (s.toks + 1) ∧ Q ((es.size : Int) != 0) s') E s := by
    refine wpAny_runValue (codeAny_builtin entry_len ?_)
    rw [Around.under_plainId plain_len _]
    exact wpAny_mono (len_body_raw (Q := fun r s' => r = .int es.size (s.toks + 1) ∧ Q ((es.size : Int) != 0) s') hd hm hfit ⟨rfl, h⟩)
      (fun fin s' h' => by obtain ⟨r, rfl, hq⟩ := h'; exact hq) fun _ _ e => e
  unfold truthy
  first
    | refine wpAny_bind (wpAny_callSpecial?_none (name := Str.ofString "__bool__") hm.typeIs noBool_dict ?_)
    | refine wpAny_bind (wpAny_pure (wpAny_bind (wpAny_callSpecial?_none (name := Str.ofString "__bool__") hm.typeIs noBool_dict ?_)))
  first
    | refine wpAny_bind (wpAny_specialOf (name := Str.ofString "__len__") hm.typeIs F.slot_dict_len.lookup ?_)
    | refine wpAny_bind (wpAny_pure (wpAny_bind (wpAny_specialOf (name := Str.ofString "__len__") hm.typeIs F.slot_dict_len.lookup ?_)))
  first
    | exact wpAny_bind (wpAny_mono key (fun r s' h' => by obtain ⟨rfl, hq⟩ := h'; exact wpAny_pure hq) fun _ _ e => e)
    | exact wpAny_bind (wpAny_pure (wpAny_bind (wpAny_mono key (fun r s' h' => by obtain ⟨rfl, hq⟩ := h'; exact wpAny_pure hq) fun _ _ e => e)))
end
end PySem
namespace L2
open PySem PySem.Spec PyProof.Rows Evl
section
variable {X : Cx}
/-! ### truth -/
def rTruN (P : Program) (w : World) (K : PySem.W.Frag) : V → Hp → (Bool → Hp → Prop) → Prop := fun x H Q => ∃ (κ : Type) (_ : DecidableEq κ) (E : Emb κ) (a : Addr) (kvs : List (κ × V)), x = .ref a ∧ NDr E P w K H a kvs ∧ Q ((kvs.length : Int) != 0) H
theorem tru_N : TruR X (rTruN X.prog X.w X.K) := by
  intro pins s σ H x v Q I rx h
  obtain ⟨κ, _, E, a, kvs, rfl, g, q⟩ := h
  cases rx
  obtain ⟨hd, z, xs, rel, dd, _⟩ := nd_rd I g
  obtain ⟨es, ep, hr, hs, _⟩ := dd.raw
  have e : es.size = kvs.length := by rw [hs]; exact (Paired.length rel).symm
  exact truthy_raw hd hr (by rw [e]; rw [sizeLine_eq] at z; omega) ⟨H, I.tok _, by rw [e]; exact q⟩
@[irreducible] def rTruA (P : Program) (w : World) (K : PySem.W.Frag) : V → Hp → (Bool → Hp → Prop) → Prop := fun x H Q => (∃ k, TruV K x H k ∧ Q k H) ∨ rTruN P w K x H Q
theorem tru_A {P : Program} {w : World} {K : PySem.W.Frag} (hP : X.prog = P := by rfl) (hw : X.w = w := by rfl) (hK : X.K = K := by rfl) : TruR X (rTruA P w K) := by
  subst hP hw hK
  unfold rTruA
  intro pins s σ H x v Q I rx h
  rcases h with h | h
  · exact tru_ok pins s σ H x v Q I rx h
  · exact tru_N pins s σ H x v Q I rx h
theorem pt_truR {r : V → Hp → (Bool → Hp → Prop) → Prop} {a : Expr} {ta : TE} (ht : TruR X r) (ha : PE X a ta) (he : ∀ whole, isTrue a X.env whole = (do let v ← whole; standAt a.pos; holding [v] (truthy v)) := by intro _; rfl) :
    PT X a (fun σ H Q => ta σ H fun x H' => r x H' Q) := by
  refine ⟨fun pins s σ H Q I h => ?_⟩
  exact isTrue_plain (thn (ha.run pins s σ H _ I h) fun v s1 ⟨x, H1, I1, r1, q1⟩ => ht pins s1 σ H1 x v Q I1 r1 q1) (he _)
/-! ### the keys, walked while it is locked -/
section
variable {κ : Type} [DecidableEq κ]
/-- the dict at d, locked as od -/
def NDz (E : Emb κ) (P : Program) (w : World) (K : PySem.W.Frag) (H : Hp) (d : Addr) (od : Obj) (kvs : List (κ × V)) : Prop :=
  ∃ xs, H d = some (.frz od (NdO P w d xs)) ∧ (d == sysModules) = false ∧ kvs.length ≤ sizeLine ∧ (xs.map (·.1)).Nodup ∧ NKV E K H kvs xs
theorem NDz.r {E : Emb κ} {P : Program} {w : World} {K : PySem.W.Frag} {H : Hp} {d : Addr} {od : Obj} {kvs : List (κ × V)} (h : NDz E P w K H d od kvs) : NDr E P w K H d kvs := by
  obtain ⟨xs, h1, h2⟩ := h
  exact ⟨xs, .inr ⟨od, h1⟩, h2⟩
theorem NDz.tp {E : Emb κ} {P : Program} {w : World} {K : PySem.W.Frag} {H H' : Hp} {d : Addr} {od : Obj} {kvs : List (κ × V)} (h : NDz E P w K H d od kvs) (e : Tp H H') : NDz E P w K H' d od kvs := by
  obtain ⟨xs, h1, h2, h3, h4, h5⟩ := h
  exact ⟨xs, e.2 _ _ _ h1, h2, h3, h4, h5.tp e⟩
def Itn (E : Emb κ) (X : Cx) (d : Addr) (od : Obj) (kvs : List (κ × V)) : It :=
  ⟨fun i H => NDz E X.prog X.w X.K H d od kvs ∧ i < kvs.length, fun i H x H' => H' = H ∧ ∃ (k : κ) (v : V), kvs[i]? = some (k, v) ∧ Dt H x (E.key k).data, fun i H => NDz E X.prog X.w X.K H d od kvs ∧ kvs.length = i⟩
theorem nkv_get {E : Emb κ} {K : PySem.W.Frag} {H : Hp} {kvs : List (κ × V)} {xs : List (NestedKey × Addr × Value)} (r : NKV E K H kvs xs) {i : Nat} {k : κ} {v : V} (e : kvs[i]? = some (k, v)) : ∃ q, xs[i]? = some q ∧ Dt H (.ref q.2.1) (E.key k).data ∧ RelV v q.2.2 := by
  obtain ⟨b, hb, e1, e2, e3⟩ := paired_get r e
  exact ⟨b, hb, e2, e3⟩
theorem Inv.frzN {pins : List (Addr × Obj)} {σ : St} {H : Hp} {s : Shared} {E : Emb κ} {d : Addr} {od : Obj} {kvs : List (κ × V)} (I : Inv X pins σ H s) (h : NDz E X.prog X.w X.K H d od kvs) :
    (d == sysModules) = false ∧ s.heap.get? d = some od ∧ od.ExactDict ∧ ∃ (es : Array DictEntry) (ep : Nat), od.data = .dict es ep ∧ es.size = kvs.length ∧
      ∀ (i : Nat) (k : κ) (v : V), kvs[i]? = some (k, v) → ∃ (en : DictEntry) (q : Addr), es[i]? = some en ∧ en.key = .ref q ∧ Dt H (.ref q) (E.key k).data := by
  obtain ⟨xs, h1, h2, h3, h4, h5⟩ := h
  obtain ⟨hd, ⟨o', es, ep, ho, hx, hdt, he⟩, _, _⟩ := (show ObjOk X.prog X.w H s.heap d (.frz od (NdO X.prog X.w d xs)) from I.hok d _ h1)
  rw [hd] at ho
  cases ho
  refine ⟨h2, hd, hx, es, ep, hdt, ?_, fun i k v e => ?_⟩
  · have l1 : es.size = xs.length := size_of_entries he
    have l2 : kvs.length = xs.length := Paired.length h5
    omega
  · obtain ⟨b, hb, e2, _⟩ := nkv_get h5 e
    have q := entry_at he i
    rw [hb] at q
    exact ⟨_, b.2.1, q, rfl, e2⟩
theorem turn_keysN {tg : Expr} {E : Emb κ} {d : Addr} {od : Obj} {kvs : List (κ × V)} {es : Array DictEntry} {ep : Nat} (it : Addr) (hod : od.data = .dict es ep) : Turn X.prog X.w X.K tg (Itn E X d od kvs) [it] it (fun i h => h.IsKeyIter it d i kvs.length ep) where
  mem := by simp
  obj := fun i h st b hb => by
    have e : b = it := by simpa using hb
    subst e
    obtain ⟨oi, e, c, dd⟩ := st
    exact ⟨oi, e, fun v z => by rw [dd] at z; cases z⟩
  keep := fun i h h' st k => st.at fun oi e => k it (by simp) oi e
  item := by
    intro Y hP hw hK hc i pins s σ H Ee I hf st hg
    obtain ⟨hd, hi⟩ := hg
    rw [← hP, ← hw, ← hK] at hd
    obtain ⟨f0, f1, f2, f3, f4, f5⟩ := hf it (by simp)
    obtain ⟨hs, hgd, hx, es', ep', hdt, hsz, ent⟩ := I.frzN hd
    obtain ⟨rfl, rfl⟩ := dict_ep hod hdt
    obtain ⟨⟨k, v⟩, hkv⟩ : ∃ p, kvs[i]? = some p := ⟨kvs[i], List.getElem?_eq_getElem hi⟩
    obtain ⟨en, q, hen, hkey, hq⟩ := ent i k v hkv
    skip
    rw [← hP, ← hw]
    refine next_key_item st hgd hdt hsz hen fun h' st' sb => ?_
    have I1 : Inv Y pins σ H { s with heap := h' } := I.turned (t' := s.toks) (fun b ob hb e => (sb.2 b hb).trans e) f0 f1 f3 f4 f5
    obtain ⟨oi, e, c, dd⟩ := id st'
    exact ⟨en.key, rfl, go_of (s := { s with heap := h' }) e c dd (by decide) ⟨.ref q, H, I1, hkey, ⟨rfl, k, v, hkv, hq⟩, st', fun b hb => (hf b hb).1⟩⟩
  done := by
    intro Y hP hw hK hc i pins s σ H Ee I hf st hg
    obtain ⟨hd, hi⟩ := hg
    rw [← hP, ← hw, ← hK] at hd
    obtain ⟨f0, f1, f2, f3, f4, f5⟩ := hf it (by simp)
    obtain ⟨hs, hgd, hx, es', ep', hdt, hsz, ent⟩ := I.frzN hd
    obtain ⟨rfl, rfl⟩ := dict_ep hod hdt
    rw [← hP, ← hw]
    exact next_key_end (I.ok.hd hc) st hgd hdt hsz (Nat.le_of_eq hi) fun h' eb => ⟨rfl, I.turned (t' := s.toks) (fun b ob hb e => eb b ob hb e) f0 f1 f3 f4 f5⟩
  self := fun A i s Q Ee st h => by
    refine wpAny_pyIter_slot st.typeIs F.slot_dict_keyiterator_iter (wpAny_call_entry F.slot_dict_keyiterator_iter st.typeIs F.entry_dict_keyiterator_iter ?_ (F.args_dict_keyiterator_iter_1 _))
    show wpAny _ _ (ret (.ref it)) _ _ s
    exact wpAny_pure ⟨_, rfl, "dict_keyiterator", _, st.typeIs, F.slot_dict_keyiterator_next.lookup, h⟩
end
def iKeysN (X : Cx) (td : TE) : TI := fun σ H R => td σ H fun x H1 => ∃ (κ : Type) (_ : DecidableEq κ) (E : Emb κ) (d : Addr) (o : Obj) (kvs : List (κ × V)), x = .ref d ∧ NDz E X.prog X.w X.K H1 d o kvs ∧ R (Itn E X d o kvs) H1
theorem pi_keysN {tg e : Expr} {td : TE} (he : PE X e td) : PI X tg e (iKeysN X td) := by
  refine ⟨fun pins s σ H R I h => ?_⟩
  refine thn (he.run pins s σ H _ I h) fun u s1 ⟨x, H1, I1, rx, κ, _, E, d, o, kvs, ex, hd, q⟩ => ?_
  subst ex
  obtain rfl : u = Value.ref d := rx
  obtain ⟨hs, hgd, hx, es, ep, hdt, hsz, ent⟩ := I1.frzN hd
  refine iter_keys hs hgd hx hdt (pi_one (tk := s1.toks) I1 _ (turn_keysN _ hdt) ⟨_, Heap.get?_push_size _ rfl, rfl, ?_⟩ q)
  rw [hsz] <;> rfl
theorem walk_keysN {κ : Type} [DecidableEq κ] {E : Emb κ} {d : Addr} {o : Obj} {kvs : List (κ × V)} : Walk (Itn E X d o kvs) kvs.length (fun H => NDz E X.prog X.w X.K H d o kvs) (fun i H x H' => H' = H ∧ ∃ (k : κ) (v : V), kvs[i]? = some (k, v) ∧ Dt H x (E.key k).data) :=
  ⟨fun _ _ hi q => ⟨q, hi⟩, fun _ q => ⟨q, rfl⟩, fun _ _ _ _ _ _ y => y⟩
/-! ### list(d) -/
theorem call_list_N (hc : X.calm = true) : CallR X (.type "list") (fun xs H Q => ∃ (κ : Type) (_ : DecidableEq κ) (E : Emb κ) (d : Addr) (kvs : List (κ × V)), xs = [V.ref d] ∧ NDr E X.prog X.w X.K H d kvs ∧
    ∀ p bs, H p = none → DtAll H bs (kvs.map fun kv => (E.key kv.1).data) → Q (.ref p) (upd H p (.lst bs))) := by
  intro pins s σ H xs us Q I r h
  obtain ⟨κ, _, E, d, kvs, rfl, hd, q⟩ := h
  obtain ⟨u, rfl, rx⟩ := r.one
  cases rx
  obtain ⟨hs, z, ks, pr, dd, _⟩ := nd_rd I hd
  obtain ⟨o, es, ep, ho, hx, hdt, he, _, hn⟩ := id dd
  have l1 : es.size = ks.length := size_of_entries he
  have l2 : kvs.length = ks.length := Paired.length pr
  refine PySem.W.kdl_call (KdlSrc.rawDict hs) (I.ok.hd hc) ⟨o, ho, hx, hdt⟩ (by omega) fun h' tk acc' c' kp e it => ?_
  have ea : acc'.toList = ks.map fun x => Value.ref x.2.1 := by
    have hl : acc'.toList.length = ks.length := by rw [Array.length_toList, it.1]; exact l1
    apply List.ext_getElem?
    intro j
    rw [List.getElem?_map]
    cases hj : acc'.toList[j]? with
    | none =>
      have h1 := List.getElem?_eq_none_iff.mp hj
      rw [List.getElem?_eq_none (by omega)]
      all_goals rfl
    | some v =>
      obtain ⟨hi, hv⟩ := it.2 j v (by rw [← Array.getElem?_toList]; exact hj)
      have qe := entry_at he j
      rw [Array.getElem?_eq_getElem hi] at qe
      cases hb : ks[j]? with
      | none =>
        rw [hb] at qe
        exact nomatch (show some es[j] = none from qe)
      | some b =>
        rw [hb] at qe
        have e2 : es[j] = entryOfKey (nestedKind X.prog X.w) b := Option.some.inj qe
        rw [hv, e2]
        all_goals rfl
  have eb : acc'.toList = (ks.map fun x => x.2.1).map Value.ref := by rw [ea, List.map_map]; all_goals rfl
  have rv : Vals ((ks.map fun x => x.2.1).map V.ref) acc'.toList := by rw [eb]; exact vals_refs _
  have hz : ((ks.map fun x => x.2.1).map V.ref).length ≤ sizeLine := by rw [List.length_map, List.length_map]; omega
  have hk : ∀ {l : List (κ × V)} {m : List (NestedKey × Addr × Value)}, NKV E X.K H l m → DtAll H ((m.map fun x => x.2.1).map V.ref) (l.map fun kv => (E.key kv.1).data) := by
    intro l m r
    induction r with
    | nil => exact .nil
    | cons h t ih => exact .cons h.2.1 ih
  refine ⟨.ref s.heap.objs.size, _, I.laid (t' := tk) (o := .lst ((ks.map fun x => x.2.1).map V.ref)) kp (Nat.le_refl _) ?_, rfl, q _ _ (I.hok.fresh (Nat.le_refl _)) (hk pr)⟩
  exact ⟨hz, acc'.toList, c', rv, by rw [Array.toArray_toList]; exact e⟩
/-! ### {k: v}, the key nested -/
def tDispN (X : Cx) (tk tv : TE) : TE := fun σ H Q => ∀ p, H p = none → (p == sysModules) = false → tk σ (upd H p (NdO X.prog X.w p [])) fun x H1 => tv σ H1 fun y H2 =>
  ∃ (κ : Type) (_ : DecidableEq κ) (E : Emb κ) (k : κ), H2 p = some (NdO X.prog X.w p []) ∧ Dt H2 x (E.key k).data ∧ ∀ o, ND E X.prog X.w X.K (upd H2 p o) p [(k, y)] → Q (.ref p) (upd H2 p o)
theorem pe_dispN {pos : Pos} {ke ve : Expr} {tk tv : TE} (hr : X.A.units + 64 < cLine) (hk : PE X ke tk) (hv : PE X ve tv) : PE X (.Dict [some ke] [ve] pos) (tDispN X tk tv) := by
  refine ⟨fun pins s σ H Q I q => ?_⟩
  have hn := I.hok.fresh (Nat.le_refl s.heap.objs.size)
  have hsm : (s.heap.objs.size == sysModules) = false := beq_eq_false_iff_ne.mpr (Ne.symm (Nat.ne_of_lt I.big))
  have I1 := I.laid (a := s.heap.objs.size) (o := NdO X.prog X.w s.heap.objs.size []) (h' := s.heap.push { cls := .type "dict", data := .dict #[] }) (t' := s.toks) (fun _ _ q => Heap.get?_push_of_some _ q) (Nat.le_refl _) (n_new I.big)
  have hp : PPs X pos [some ke] [ve] [(tk, tv)] := pps_cons hk hv pps_nil
  rw [arm_eval_Dict]
  have shp : (evalEachOpt [some ke] X.env).zip ((evalEach [ve] X.env).map fun v => do let x ← v; standAt pos; pure x) = (pairTrees [some ke] [ve] X.env pos).map fun p => (some p.1, p.2) := rfl
  rw [shp, dictDisplay_pairs _ (by simp [pairTrees]) (by show (1 : Nat) < 17; decide)]
  refine wpAny_bind (wpAny_standAt (wpAny_bind (wpAny_subDictH (knd := nestedKind X.prog X.w) (by show X.A.units + 8 < cLine; omega) (by show 1 ≤ 15; decide) ?_)))
  refine thn (hp.run pins _ σ _ (fun ps H2 => match ps with | [(x, y)] => (∃ (κ : Type) (_ : DecidableEq κ) (E : Emb κ) (k : κ), H2 s.heap.objs.size = some (NdO X.prog X.w s.heap.objs.size []) ∧ Dt H2 x (E.key k).data ∧ ∀ o, ND E X.prog X.w X.K (upd H2 s.heap.objs.size o) s.heap.objs.size [(k, y)] → Q (.ref s.heap.objs.size) (upd H2 s.heap.objs.size o)) | _ => False) I1 (q _ hn hsm)) fun ws s2 ⟨ps, H2, I2, rel, hps⟩ => ?_
  · obtain ⟨x, y, rfl⟩ : ∃ x y, ps = [(x, y)] := by
      match ps, hps with
      | [(x, y)], _ => exact ⟨x, y, rfl⟩
    obtain ⟨κ, _, E, k, e, hx, q2⟩ := hps
    obtain ⟨⟨u1, u2⟩, rfl, r1, r2⟩ : ∃ u, ws = [u] ∧ RelV x u.1 ∧ RelV y u.2 := by
      cases rel with
      | cons a t => cases t; exact ⟨_, rfl, a.1, a.2⟩
    obtain ⟨b, rfl⟩ := nk_ref (hx.dp (K := X.K))
    cases r1
    have nd0 : ND E X.prog X.w X.K H2 s.heap.objs.size [] := ⟨[], e, hsm, Nat.zero_le _, List.nodup_nil, .nil⟩
    obtain ⟨_, _, xs, rel0, dd, _⟩ := nd_rd I2 nd0.r
    cases rel0
    refine ⟨[(E.key k, b, u2)], ⟨rfl, rfl, nk_is I2 hx.dp, trivial⟩, dd, fun h' tk dd' hs => wpAny_pure ?_⟩
    obtain ⟨q', es, ep, hq, h2, h3, h4, _, h5⟩ := id dd'
    have es1 : storedAllH [] [(E.key k, b, u2)] = [(E.key k, b, u2)] := rfl
    rw [es1] at h4 h5
    have new : NdObj X.prog X.w s.heap.objs.size [(E.key k, b, u2)] h' := ⟨q', es, ep, hq, h2, h3, h4⟩
    have mu : Mut (H2 s.heap.objs.size) := by rw [e]; trivial
    have rel1 : NKV E X.K H2 [(k, y)] [(E.key k, b, u2)] := .cons ⟨rfl, hx, r2⟩ .nil
    have sf : Sft (H2 s.heap.objs.size) := by rw [e]; trivial
    exact ⟨.ref s.heap.objs.size, _, d_write (t' := tk) I2 mu hs ⟨q', hq⟩ (nd_ok new), rfl, q2 _ ⟨_, upd_same, hsm, by show 1 ≤ sizeLine; decide, h5, rel1.tp (Tp.upd sf)⟩⟩
end
end L2
set_option Elab.async false
set_option linter.all false
set_option maxRecDepth 100000
set_option maxHeartbeats 4000000
/-! Truetouch: what the module's top holds; views; rules of the program's own constructs. -/
namespace L2
open PySem PySem.Spec PyProof.Rows Evl

/-! ### an object's view changed around a call -/
section
variable {P : Program} {w : World} {K : PySem.W.Frag} {mg : Str → Option Value} {base : Heap}
theorem upd_self {H : Hp} {a : Addr} {o : HO} (h : H a = some o) : upd H a o = H := by
  funext b
  by_cases e : b = a
  · subst e; rw [upd_same, h]
  · rw [upd_ne e]
/-- neither a tuple nor a dict of an instance: nothing leans on it -/
def Lone : Option HO → Prop
  | some (.lst _) => True
  | some (.ext _) => True
  | _ => False
theorem HOk.swap {H : Hp} {h : Heap} {a : Addr} {o : HO} (hok : HOk P w H h) (hl : Lone (H a)) (new : ObjOk P w (upd H a o) h a o) : HOk P w (upd H a o) h := by
  intro b u e
  by_cases ne : b = a
  · subst ne
    rw [upd_same] at e
    cases e
    exact new
  · rw [upd_ne ne] at e
    refine (hok b u e).stay (fun _ _ _ q => q) (fun c hc => ?_) (fun c xs hc => ?_)
    · have nc : c ≠ a := fun z => by subst z; rw [hc] at hl; exact hl
      rw [upd_ne nc]; exact hc
    · have nc : c ≠ a := fun z => by subst z; rw [hc] at hl; exact hl
      rw [upd_ne nc]; exact hc
theorem Env0.swap {A : Around} {outer : List Env} {s : Shared} {H : Hp} {a : Addr} {o : HO} (e : Env0 P w K mg base A outer s H) (hl : Lone (H a)) (new : ObjOk P w (upd H a o) s.heap a o) : Env0 P w K mg base A outer s (upd H a o) := by
  have hn : H a ≠ none := fun z => by rw [z] at hl; exact hl
  refine ⟨e.frames, e.mod, fun b x q => ⟨(e.bs b x q).1, ?_⟩, e.bsz, e.funs, fun b hb => ?_, e.hok.swap hl new, e.bare⟩
  · have ne : b ≠ a := fun z => by subst z; exact hn (e.bs b x q).2
    rw [upd_ne ne]; exact (e.bs b x q).2
  · have ne : b ≠ a := fun z => by subst z; exact hn (e.frf b hb)
    rw [upd_ne ne]; exact e.frf b hb
/-- a promise over lists at a, hidden: φ what stays true of the list -/
def hidO (a : Addr) (Φ : List V → Prop) : HO := .ext fun h => ∃ xs, Φ xs ∧ xs.length ≤ sizeLine ∧ ∃ (its : List Value) (n : Nat), Vals xs its ∧ h.get? a = some { cls := .type "list", data := .seq its.toArray n }
theorem hid_of {H H2 : Hp} {h : Heap} {a : Addr} {xs : List V} {Φ : List V → Prop} (p : Φ xs) (k : ObjOk P w H h a (.lst xs)) : ObjOk P w H2 h a (hidO a Φ) := by
  obtain ⟨z, its, n, r, e⟩ := k
  refine ⟨⟨xs, p, z, its, n, r, e⟩, ⟨_, e⟩, ?_⟩
  rintro h1 h2 ⟨ys, p, z, its, n, r, e⟩ k
  exact ⟨ys, p, z, its, n, r, k _ e⟩
theorem of_hid {H H2 : Hp} {h : Heap} {a : Addr} {Φ : List V → Prop} (k : ObjOk P w H h a (hidO a Φ)) : ∃ xs, Φ xs ∧ ObjOk P w H2 h a (.lst xs) := by
  obtain ⟨⟨xs, p, z, its, n, r, e⟩, _⟩ := k
  exact ⟨xs, p, z, its, n, r, e⟩
theorem lone_hid {a : Addr} {Φ : List V → Prop} : Lone (some (hidO a Φ)) := trivial
theorem CE.swap {outer : List Env} {s s' : Shared} {H : Hp} {a : Addr} {Φ : List V → Prop} {xs : List V} {Q : VK} {u : Value} (ha : H a = some (hidO a Φ))
    (c : CE outer P w (upd H a (.lst xs)) s (fun v H2 => ∃ ys, H2 = upd H a (.lst ys) ∧ Φ ys ∧ Q v H) u s') : CE outer P w H s Q u s' := by
  obtain ⟨v, H2, h1, h2, un, hok, r, ys, rfl, p, q⟩ := c
  refine ⟨v, H, h1, h2, ?_, ?_, r, q⟩
  · have ne : ∀ b, H b = none → b ≠ a := fun b hb z => by subst z; rw [ha] at hb; cases hb
    have eq : ∀ b, H b = none → upd H a (.lst xs) b = none := fun b hb => by rw [upd_ne (ne b hb)]; exact hb
    exact ⟨fun b o e hb => un.keep b o e (eq b hb), fun b o e hb => un.slot b o e (eq b hb), fun b o e hb _ => hb, un.there, fun _ _ e => e, fun _ _ _ e => e, fun _ ps e => ⟨#[], by simpa using e⟩⟩
  · have e := hok.swap (a := a) (o := hidO a Φ) (by rw [upd_same]; trivial) (hid_of p (hok a _ upd_same))
    rw [upd_upd, upd_self ha] at e
    exact e
/-- THE RULE: a def that keeps the list at a within Φ, seen from a heap that hides it -/
theorem FnOk.hide {k : Nat} {f : Addr} {fd : FuncData} {ps : List Str} {sp sp' : Sp} (F : FnOk P w K mg base CX0 k f fd ps sp)
    (h : ∀ vs H Q E, sp' vs H Q E → ∃ a Φ, H a = some (hidO a Φ) ∧ ∀ xs, Φ xs → sp vs (upd H a (.lst xs)) (fun v H2 => ∃ ys, H2 = upd H a (.lst ys) ∧ Φ ys ∧ Q v H) E)
    (len : ∀ vs H Q E, sp' vs H Q E → vs.length = ps.length) : FnOk P w K mg base CX0 k f fd ps sp' := by
  refine ⟨len, fun A outer s H args us vs Q E hr e0 hb hv hs => ?_⟩
  obtain ⟨a, Φ, ha, q⟩ := h vs H Q E hs
  obtain ⟨xs, p, ok0⟩ := of_hid (H2 := H) (e0.hok a _ ha)
  have ok : ObjOk P w (upd H a (.lst xs)) s.heap a (.lst xs) := ok0
  refine codeAny_mono (F.run A outer s _ args us vs _ E hr (e0.swap (by rw [ha]; exact lone_hid) ok) hb hv (q xs p)) fun r s' hq => ?_
  cases r with
  | error e => exact False.elim hq
  | ok fl =>
    cases fl with
    | ret u => exact CE.swap ha hq
    | next => exact False.elim hq
    | brk => exact False.elim hq
    | cont => exact False.elim hq
/-- a new list, hidden from then on -/
theorem FnOk.hideNew {k : Nat} {f : Addr} {fd : FuncData} {ps : List Str} {sp sp' : Sp} (F : FnOk P w K mg base CX0 k f fd ps sp)
    (h : ∀ vs H Q E, sp' vs H Q E → sp vs H (fun v H2 => ∃ a ys Φ, H a = none ∧ H2 a = some (.lst ys) ∧ Φ ys ∧ Q v (upd H2 a (hidO a Φ))) E)
    (len : ∀ vs H Q E, sp' vs H Q E → vs.length = ps.length) : FnOk P w K mg base CX0 k f fd ps sp' := by
  refine ⟨len, fun A outer s H args us vs Q E hr e0 hb hv hs => ?_⟩
  refine codeAny_mono (F.run A outer s _ args us vs _ E hr e0 hb hv (h _ _ _ _ hs)) fun r s' hq => ?_
  cases r with
  | error e => exact False.elim hq
  | ok fl =>
    cases fl with
    | ret u =>
      obtain ⟨v, H2, h1, h2, un, hok, r, a, ys, Φ, hn, ha, p, q⟩ := hq
      refine ⟨v, _, h1, h2, ?_, hok.swap (by rw [ha]; trivial) (hid_of p (hok a _ ha)), r, q⟩
      have ne : ∀ b o, H b = some o → b ≠ a := fun b o hb z => by subst z; rw [hn] at hb; cases hb
      refine ⟨un.keep, un.slot, fun b o e hb hx => ?_, un.there, fun b xs e => ?_, fun b o u e => ?_, fun b ps e => ?_⟩
      · have nb : b ≠ a := fun z => by subst z; have := un.free b o e hb hx; rw [ha] at this; cases this
        rw [upd_ne nb]; exact un.free b o e hb hx
      · rw [upd_ne (ne b _ e)]; exact un.tups b xs e
      · rw [upd_ne (ne b _ e)]; exact un.frzs b o u e
      · rw [upd_ne (ne b _ e)]; exact un.tbls b ps e
    | next => exact False.elim hq
    | brk => exact False.elim hq
    | cont => exact False.elim hq
end
end L2
set_option Elab.async false
set_option linter.all false
set_option maxRecDepth 100000
set_option maxHeartbeats 4000000
/-! Truetouch: what the module's top holds; rules of its constructs; answers in terms of data. -/
namespace L2
open PySem PySem.Spec PyProof.Rows Evl ClX

/-- a constant of a class, read off the class by its name -/
structure CvD (K : PySem.W.Frag) (mg : Str → Option Value) (C : Str) (f : Str) (v : V) : Prop where
  ex : ∃ A mc u, mg C = some (.ref A) ∧ CRead K A mc ∧ CVal K A mc f v u
/-- the classes: Method, Book, Conductor, Outlook, RoundVerdict, Touch -/
structure Cls6 where
  M : Addr
  B : Addr
  C : Addr
  O : Addr
  V : Addr
  U : Addr
/-- isinstance's facts of a class -/
structure IsiC (K : PySem.W.Frag) (C : Addr) : Prop where
  ty : ∀ (H : Hp) (a dx : Addr) (fs : List (Str × V)), H a = some (.ins C dx fs) → TyX K H (.ref a) (.ref C)
  one : PySem.W.kitOne K (.ref C) (.ref C) = some true
/-- the names of the module's top -/
structure Txt (K : PySem.W.Frag) (mg : Str → Option Value) (cl : Cls6) : Prop where
  b_tuple : mg "tuple" = none
  b_list : mg "list" = none
  b_len : mg "len" = none
  b_isinstance : mg "isinstance" = none
  b_range : mg "range" = none
  b_enumerate : mg "enumerate" = none
  b_sorted : mg "sorted" = none
  b_sum : mg "sum" = none
  b_int : mg "int" = none
  b_abs : mg "abs" = none
  b_max : mg "max" = none
  b_bool : mg "bool" = none
  b_str : mg "str" = none
  c_LETTERS : ∃ t, mg "LETTERS" = some (.str "abcdefghijklmnopqrstuvwxyz" t)
  c_MOST_LEVELS : ∃ t, mg "MOST_LEVELS" = some (.int 60 t)
  c_MOST_ENTRIES : ∃ t, mg "MOST_ENTRIES" = some (.int 60 t)
  c_MOST_MEMORIES : ∃ t, mg "MOST_MEMORIES" = some (.int 4 t)
  c_MOST_STANDINGS : ∃ t, mg "MOST_STANDINGS" = some (.int 400 t)
  c_MOST_RANK : ∃ t, mg "MOST_RANK" = some (.int (10 ^ 60) t)
  v_Book_HOME : CvD K mg "Book" "HOME" (.int (-1))
  g_Method : mg "Method" = some (.ref cl.M)
  i_M : IsiC K cl.M
  c_M : Cls K cl.M
  n_M_stage : NoAttr K cl.M "stage"
  n_M_plain : NoAttr K cl.M "plain"
  n_M_calls : NoAttr K cl.M "calls"
  n_M_opening : NoAttr K cl.M "opening"
  n_M_leads : NoAttr K cl.M "leads"
  n_M_row_of_letters : NoAttr K cl.M "row_of_letters"
  n_M_moves : NoAttr K cl.M "moves"
  n_M_bodies : NoAttr K cl.M "bodies"
  c_B : Cls K cl.B
  n_B_method : NoAttr K cl.B "method"
  n_B_entries : NoAttr K cl.B "entries"
  n_B_by_state : NoAttr K cl.B "by_state"
  c_C : Cls K cl.C
  n_C_method : NoAttr K cl.C "method"
  n_C_bell : NoAttr K cl.C "bell"
  n_C_table : NoAttr K cl.C "table"
  c_O : Cls K cl.O
  n_O_book : NoAttr K cl.O "book"
  n_O_callings : NoAttr K cl.O "callings"
  n_O_ways : NoAttr K cl.O "ways"
  n_O_standings : NoAttr K cl.O "standings"
  c_V : Cls K cl.V
  n_V_breach : NoAttr K cl.V "breach"
  n_V_holds : NoAttr K cl.V "holds"
  n_V_table : NoAttr K cl.V "table"
  n_V_told : NoAttr K cl.V "told"
  c_U : Cls K cl.U
  n_U_method : NoAttr K cl.U "method"
  n_U_calling : NoAttr K cl.U "calling"
  n_U_start : NoAttr K cl.U "start"
  n_U_row_of_heads : NoAttr K cl.U "row_of_heads"
  n_U_rows : NoAttr K cl.U "rows"
section
variable {X : Cx}
theorem pe_gci {x : Str} {i : Int} {pos : Pos} (h : ∃ t, X.mg x = some (.int i t)) (hg : Gl X x := by exact rfl) (hd : (x == ("__debug__" : Str)) = false := by decide) : PE X (.Name x pos) (tC (.int i)) := by
  obtain ⟨t, h⟩ := h
  exact pe_glob hg h ⟨t, rfl⟩ hd
theorem pe_gcs {x : Str} {i : Str} {pos : Pos} (h : ∃ t, X.mg x = some (.str i t)) (hg : Gl X x := by exact rfl) (hd : (x == ("__debug__" : Str)) = false := by decide) : PE X (.Name x pos) (tC (.str i)) := by
  obtain ⟨t, h⟩ := h
  exact pe_glob hg h ⟨t, rfl⟩ hd
theorem pe_cv {C f : Str} {v : V} {p pos : Pos} (h : CvD X.K X.mg C f v) (hg : Gl X C := by exact rfl) (hd : (C == ("__debug__" : Str)) = false := by decide) (hb : attributeBase (.Name C p) f X.env (eval (.Name C p) X.env) = eval (.Name C p) X.env := by rfl) :
    PE X (.Attribute (.Name C p) f pos) (tC v) := by
  obtain ⟨A, mc, u, h1, h2, h3⟩ := h.ex
  exact ⟨fun pins s σ H Q I q => (pe_cval (pos := pos) (pe_glob (pos := p) (v := .ref A) hg h1 rfl hd) hb).run pins s σ H Q I ⟨A, mc, v, u, rfl, h2, h3, q⟩⟩
theorem pe_tupleRange {a b : Expr} {ta tb : TE} {p p' pos pos' : Pos} (hc : X.calm = true) (hg : Gl X "tuple") (hm : X.mg "tuple" = none) (hg' : Gl X "range") (hm' : X.mg "range" = none) (ha : PE X a ta) (hb : PE X b tb)
    (na : starEach [a, b] X.env = (false, eval a X.env) :: starEach [b] X.env := by rfl) (nb : starEach [b] X.env = (false, eval b X.env) :: starEach [] X.env := by rfl)
    (n1 : starEach [Expr.Call (.Name "range" p) [a, b] [] pos] X.env = (false, eval (Expr.Call (.Name "range" p) [a, b] [] pos) X.env) :: starEach [] X.env := by rfl) (hp : (backTo pos (starEach [b] X.env)).any (·.1) = false := by rfl) : PE X (.Call (.Name "tuple" p') [.Call (.Name "range" p) [a, b] [] pos] [] pos') (tTupRg (tRg2 ta tb)) :=
  pe_tupRg hc hg hm (prg_2 hg' hm' ha hb na nb hp) n1
theorem pe_listRange {a b : Expr} {ta tb : TE} {p p' pos pos' : Pos} (hc : X.calm = true) (hg : Gl X "list") (hm : X.mg "list" = none) (hg' : Gl X "range") (hm' : X.mg "range" = none) (ha : PE X a ta) (hb : PE X b tb)
    (na : starEach [a, b] X.env = (false, eval a X.env) :: starEach [b] X.env := by rfl) (nb : starEach [b] X.env = (false, eval b X.env) :: starEach [] X.env := by rfl)
    (n1 : starEach [Expr.Call (.Name "range" p) [a, b] [] pos] X.env = (false, eval (Expr.Call (.Name "range" p) [a, b] [] pos) X.env) :: starEach [] X.env := by rfl) (hp : (backTo pos (starEach [b] X.env)).any (·.1) = false := by rfl) : PE X (.Call (.Name "list" p') [.Call (.Name "range" p) [a, b] [] pos] [] pos') (tLstRg (tRg2 ta tb)) :=
  pe_listRg hc hg hm (prg_2 hg' hm' ha hb na nb hp) n1
/-- not e, e's truth by r -/
theorem pe_notR {r : V → Hp → (Bool → Hp → Prop) → Prop} {a : Expr} {ta : TE} {pos : Pos} (ht : TruR X r) (ha : PE X a ta) : PE X (.UnaryOp .Not a pos) (fun σ H Q => ta σ H fun x H1 => r x H1 fun b H2 => Q (.bl (!b)) H2) := by
  refine ⟨fun pins s σ H Q I h => ?_⟩
  refine UnaryOp_ (thn (ha.run pins s σ H _ I h) fun v s1 ⟨x, H1, I1, r1, q1⟩ => ?_)
  exact not_of (wpAny_mono (ht pins s1 σ H1 x v (fun b H2 => Q (.bl (!b)) H2) I1 r1 q1) (fun b s' ⟨H2, I2, q2⟩ => ⟨.bl (!b), H2, I2, rfl, q2⟩) fun _ _ e => e)
/-! ### is -/
def lit : V → Bool
  | .non | .bl _ | .int _ | .str _ | .ref _ => true
  | _ => false
theorem op_isC : OpR X (compareOp .Is) (fun x y H Q => lit x = true ∧ (y = .non ∨ ∃ b, y = .bl b) ∧ Q (.bl (decide (x = y))) H) := by
  intro pins s σ H x y v u Q I rx ry h
  obtain ⟨hx, hy, q⟩ := h
  have e : PySem.plainIs v u = true ∧ (v == u) = decide (x = y) := by
    rcases hy with rfl | ⟨b, rfl⟩
    · cases ry
      cases x <;> first
        | (cases hx; done)
        | (cases rx; exact ⟨rfl, rfl⟩)
        | (obtain ⟨t, rfl⟩ := rx; exact ⟨rfl, rfl⟩)
    · cases ry
      cases x <;> first
        | (cases hx; done)
        | (cases rx; exact ⟨rfl, by first | rfl | (rw [Bool.eq_iff_iff]; simp)⟩)
        | (obtain ⟨t, rfl⟩ := rx; exact ⟨rfl, rfl⟩)
  exact wpAny_is_plain e.1 ⟨_, H, I, by rw [e.2]; rfl, q⟩
theorem op_isNotC : OpR X (compareOp .IsNot) (fun x y H Q => lit x = true ∧ (y = .non ∨ ∃ b, y = .bl b) ∧ Q (.bl (!decide (x = y))) H) := by
  intro pins s σ H x y v u Q I rx ry h
  obtain ⟨hx, hy, q⟩ := h
  have e : PySem.plainIs v u = true ∧ (v == u) = decide (x = y) := by
    rcases hy with rfl | ⟨b, rfl⟩
    · cases ry
      cases x <;> first
        | (cases hx; done)
        | (cases rx; exact ⟨rfl, rfl⟩)
        | (obtain ⟨t, rfl⟩ := rx; exact ⟨rfl, rfl⟩)
    · cases ry
      cases x <;> first
        | (cases hx; done)
        | (cases rx; exact ⟨rfl, by first | rfl | (rw [Bool.eq_iff_iff]; simp)⟩)
        | (obtain ⟨t, rfl⟩ := rx; exact ⟨rfl, rfl⟩)
  exact wpAny_isNot_plain e.1 ⟨_, H, I, by rw [e.2]; rfl, q⟩
/-! ### slices of lists, tuples, texts -/
@[irreducible] def rSlX (K : PySem.W.Frag) : V → Option Int → Option Int → Hp → VK → Prop := fun x lo hi H Q => rSlL K x lo hi H Q ∨ rSlA K x lo hi H Q ∨ rSlS x lo hi H Q
theorem sl_A {K : PySem.W.Frag} (hK : X.K = K := by rfl) : SlR X (rSlX K) := by
  subst hK
  unfold rSlX
  exact sl_list.or (sl_tupA.or sl_str)
/-! ### len -/
@[irreducible] def rLenA (P : Program) (w : World) (K : PySem.W.Frag) : List V → Hp → VK → Prop := fun xs H Q => (∃ x n, xs = [x] ∧ LenV K x H n ∧ Q (.int n) H) ∨ (∃ (κ : Type) (_ : DecidableEq κ) (E : Emb κ) (a : Addr) (kvs : List (κ × V)), xs = [.ref a] ∧ NDr E P w K H a kvs ∧ Q (.int kvs.length) H)
theorem call_lenA {P : Program} {w : World} {K : PySem.W.Frag} (hP : X.prog = P := by rfl) (hw : X.w = w := by rfl) (hK : X.K = K := by rfl) : CallR X (.builtin "len") (rLenA P w K) := by
  subst hP hw hK
  unfold rLenA
  exact call_len.or call_len_nd
/-! ### new tuples, known to have no dict -/
/-- a new tuple at p -/
abbrev tupO (o : Obj) (xs : List V) : HO := .frz o (.tup xs)
@[irreducible] def rNewT : List V → Hp → VK → Prop := fun xs H1 Q => xs.length ≤ sizeLine ∧ ∀ p o, H1 p = none → o.dict = none → Q (.ref p) (upd H1 p (.frz o (.tup xs)))
def tTupN (t : TA) : TE := fun σ H Q => t σ H fun xs H1 => rNewT xs H1 Q
theorem pe_tupN {es : List Expr} {t : TA} {pos : Pos} {x1} (h : PA X es t) : PE X (.Tuple es x1 pos) (tTupN t) := by
  refine ⟨fun pins s σ H Q I hq => ?_⟩
  refine wpAny_Tuple_spliced (thn (h.run pos pins s σ H _ I hq) fun us s1 ⟨xs, H1, I1, r, zq⟩ => ?_)
  unfold rNewT at zq
  obtain ⟨z, q⟩ := zq
  refine ⟨by rw [← r.length]; exact z, ?_⟩
  have hf : H1 s1.heap.objs.size = none := I1.hok.fresh (Nat.le_refl _)
  refine ⟨.ref s1.heap.objs.size, upd H1 s1.heap.objs.size (.frz { cls := .type "tuple", data := .seq us.toArray } (.tup xs)), I1.laid (t' := s1.toks) (fun b u e => Heap.get?_push_of_some _ e) (Nat.le_refl _) ?_, rfl, q _ _ hf rfl⟩
  exact ⟨Heap.get?_push_size _ rfl, z, us, r, ⟨_, Heap.get?_push_size _ rfl, rfl, _, rfl⟩⟩
@[irreducible] def rTupN (K : PySem.W.Frag) : List V → Hp → VK → Prop := fun xs H Q => ∃ p ys, xs = [.ref p] ∧ ((SqL K H p ys ∧ ∀ l o, H l = none → o.dict = none → Q (.ref l) (upd H l (.frz o (.tup ys)))) ∨ (SqT K H p ys ∧ Q (.ref p) H))
theorem call_tupN {K : PySem.W.Frag} (hK : X.K = K := by rfl) : CallR X (.type "tuple") (rTupN K) := by
  subst hK
  unfold rTupN
  intro pins s σ H xs us Q I r h
  obtain ⟨p, ys, rfl, h⟩ := h
  obtain ⟨u, rfl, rx⟩ := vals1 r
  cases rx
  rcases h with ⟨hq, q⟩ | ⟨hq, q⟩
  · obtain ⟨its, r', pl, hz⟩ := I.list hq
    have hlen := r'.length
    refine call_tuple_list pl.isList (fun h' kp => ?_) (by simp only [List.size_toArray] <;> omega)
    have I1 : Inv X pins σ H { s with heap := h' } := I.kept (t' := s.toks) kp
    have I2 : Inv X pins σ (upd H h'.objs.size (.frz { cls := .type "tuple", data := .seq its.toArray } (.tup ys))) { s with heap := h'.push { cls := .type "tuple", data := .seq its.toArray } } :=
      I1.laid (t' := s.toks) (fun b o e => Heap.get?_push_of_some _ e) (Nat.le_refl _) (show ObjOk X.prog X.w _ _ _ (.frz _ (.tup ys)) from ⟨Heap.get?_push_size _ rfl, hz, its, r', IsTup.new _ _⟩)
    exact ⟨.ref h'.objs.size, _, I2, rfl, q _ _ (I1.hok.fresh (Nat.le_refl _)) rfl⟩
  · obtain ⟨its, r', pl, hz⟩ := I.tuple hq
    exact call_tuple_same pl ⟨.ref p, H, I, rfl, q⟩
def tTupRgN (te : St → Hp → (Int → Int → Hp → Prop) → Prop) : TE := fun σ H Q => te σ H fun a b H1 => RgOk a b ∧ ∀ q o, H1 q = none → o.dict = none → Q (.ref q) (upd H1 q (.frz o (.tup (rgV a b))))
theorem pe_tupRgN {e : Expr} {te : St → Hp → (Int → Int → Hp → Prop) → Prop} {p pos : Pos} (hc : X.calm = true) (hg : Gl X "tuple") (hm : X.mg "tuple" = none) (he : PRg X e te) (na : starEach [e] X.env = (false, eval e X.env) :: starEach [] X.env := by rfl) : PE X (.Call (.Name "tuple" p) [e] [] pos) (tTupRgN te) := by
  refine ⟨fun pins s σ H Q I h => ?_⟩
  refine Call_ (ld_blt I hg hm boot_tuple (PyProof.Rows.callWith_type1 (args_cons (thn (he pins s σ H _ I h) fun x s1 ⟨r, a, b, t, u, v, H1, ex, hr, I1, ok, q⟩ => args_nil ?_) na) na))
  subst ex
  obtain ⟨b1, b2, b3, b4, b5⟩ := ok
  refine call_tuple_range (n := (b - a).toNat) (I1.ok.hd hc) hr (small_one b1 b2 b3 b4) (rangeSize_nat a b) b5 fun h' tk acc hk hi => ?_
  have I2 : Inv X pins σ H1 { s1 with heap := h', toks := tk } := I1.kept hk
  refine ⟨.ref h'.objs.size, upd H1 h'.objs.size (.frz { cls := .type "tuple", data := .seq acc } (.tup (rgV a b))), I2.laid (t' := tk) (fun c o e => Heap.get?_push_of_some _ e) (Nat.le_refl _) (show ObjOk X.prog X.w _ _ _ (.frz _ (.tup (rgV a b))) from ⟨Heap.get?_push_size _ rfl, ?_, acc.toList, vals_rg hi, ?_⟩), rfl, q _ _ (I2.hok.fresh (Nat.le_refl _)) rfl⟩
  · rw [rgV_length, sizeLine_eq]; omega
  · rw [Array.toArray_toList]; exact IsTup.new _ _
theorem pe_tupleRangeN {a b : Expr} {ta tb : TE} {p p' pos pos' : Pos} (hc : X.calm = true) (hg : Gl X "tuple") (hm : X.mg "tuple" = none) (hg' : Gl X "range") (hm' : X.mg "range" = none) (ha : PE X a ta) (hb : PE X b tb)
    (na : starEach [a, b] X.env = (false, eval a X.env) :: starEach [b] X.env := by rfl) (nb : starEach [b] X.env = (false, eval b X.env) :: starEach [] X.env := by rfl)
    (n1 : starEach [Expr.Call (.Name "range" p) [a, b] [] pos] X.env = (false, eval (Expr.Call (.Name "range" p) [a, b] [] pos) X.env) :: starEach [] X.env := by rfl) (hp : (backTo pos (starEach [b] X.env)).any (·.1) = false := by rfl) : PE X (.Call (.Name "tuple" p') [.Call (.Name "range" p) [a, b] [] pos] [] pos') (tTupRgN (tRg2 ta tb)) :=
  pe_tupRgN hc hg hm (prg_2 hg' hm' ha hb na nb hp) n1
/-- o.index(x), o.get(k, y): the receiver's type and that it has no dict of its own are told by the heap -/
@[irreducible] def tyN (P : Program) (w : World) (K : PySem.W.Frag) (T : String) (x : V) (H : Hp) : Prop := ∃ p, x = .ref p ∧ ((T = "tuple" ∧ ∃ o xs, H p = some (.frz o (.tup xs)) ∧ o.dict = none) ∨ (T = "dict" ∧ ((∃ kvs, Rd H p (.dK kvs)) ∨ ∃ (κ : Type) (_ : DecidableEq κ) (E : Emb κ) (kvs : List (κ × V)), NDr E P w K H p kvs)))
theorem tyN_is {pins : List (Addr × Obj)} {σ : St} {H : Hp} {s : Shared} {T : String} {x : V} {v : Value} (I : Inv X pins σ H s) (r : RelV x v) (ty : tyN X.prog X.w X.K T x H) :
    s.TypeIs v T ∧ ∀ a, v = .ref a → ∃ ob, s.heap.get? a = some ob ∧ ob.dict = none := by
  unfold tyN at ty
  obtain ⟨p, rfl, h⟩ := ty
  cases r
  rcases h with ⟨rfl, o, xs, h, hd⟩ | ⟨rfl, ⟨kvs, h⟩ | ⟨κ, _, E, kvs, h⟩⟩
  · obtain ⟨h1, _, its, _, o2, h2, hc, _⟩ := (show ObjOk X.prog X.w H s.heap p (.frz o (.tup xs)) from I.hok p _ h)
    rw [h1] at h2
    cases h2
    exact ⟨⟨o, h1, hc⟩, fun a e => by cases e; exact ⟨o, h1, hd⟩⟩
  · obtain ⟨_, _, vs, _, o, es, ep, h1, h2, _⟩ := (show ObjOk X.prog X.w H s.heap p (.dK kvs) from h.ok I.hok)
    exact ⟨⟨o, h1, h2.1⟩, fun a e => by cases e; exact ⟨o, h1, h2.2.1⟩⟩
  · obtain ⟨_, _, xs, _, ⟨o, es, ep, h1, h2, _⟩, _⟩ := nd_rd I h
    exact ⟨⟨o, h1, h2.1⟩, fun a e => by cases e; exact ⟨o, h1, h2.2.1⟩⟩
def tBN (P : Program) (w : World) (K : PySem.W.Frag) (T : String) (r : V → List V → Hp → VK → Prop) (to : TE) (t : TA) : TE := fun σ H Q => to σ H fun x H1 => tyN P w K T x H1 ∧ t σ H1 fun xs H2 => r x xs H2 Q
theorem pe_bn {P : Program} {w : World} {K : PySem.W.Frag} {o e : Expr} {es : List Expr} {to : TE} {t : TA} {name : Str} {apos cpos : Pos} {T id : String} {r : V → List V → Hp → VK → Prop} (pa : PlainAttrs T) (slot : Slot T name id) (hty : typeOf (.builtin id) = pure (.type "method_descriptor")) (hm : MtR X id r) (ho : PE X o to) (ha : PA X (e :: es) t) (hP : X.prog = P := by rfl) (hw : X.w = w := by rfl) (hK : X.K = K := by rfl)
    (hbase : attributeBase o name X.env (eval o X.env) = eval o X.env := by rfl)
    (hfew : ((backTo cpos (starEach (e :: es) X.env)).all (fun x => !x.1) && (backToKw cpos (keywordEach [] X.env)).all (fun x => x.1.isSome)
      && decide ((e :: es).length + ([] : List Keyword).length + (if ([] : List Keyword).isEmpty then 0 else 1) < 30)) = true := by rfl)
    (hline : (apos.endLine == cpos.line) = true := by rfl) (hs : starEach (e :: es) X.env = (false, eval e X.env) :: starEach es X.env := by rfl) (hplain : (backTo cpos (starEach es X.env)).any (·.1) = false := by rfl) :
    PE X (.Call (.Attribute o name apos) (e :: es) [] cpos) (tBN P w K T r to t) := by
  subst hP hw hK
  refine ⟨fun pins s σ H Q I h => ?_⟩
  refine wpAny_Call_method_late hbase hfew hline rfl (thn (ho.run pins s σ H _ I h) fun v s1 ⟨x, H1, I1, r1, ty, q1⟩ => ?_)
  obtain ⟨h1, h2⟩ := tyN_is I1 r1 ty
  refine ⟨T, id, pa, slot, hty, h1, h2, ?_⟩
  have hA := ha.run cpos pins s1 σ H1 _ I1 q1
  rw [hs] at hA ⊢
  refine Calls.callWith_builtin (by show (false || (backTo cpos (starEach es X.env)).any (·.1)) = false; rw [hplain] <;> rfl) (Calls.evalArgs_plain ?_)
  exact thn hA fun us s2 ⟨vs, H2, I2, r2, q2⟩ => hm pins s2 σ H2 x vs v us Q I2 r1 r2 q2
end
end L2
set_option Elab.async false
set_option linter.all false
set_option maxRecDepth 100000
set_option maxHeartbeats 4000000
namespace L2
open PySem PySem.Spec PyProof.Rows Evl
abbrev FnP (K : PySem.W.Frag) (x qual : Str) (st : Stmt) (dvs : List V) (f : Addr) (fd : FuncData) : Prop := FunD K x qual (defArgs st) (defBody st) (defScope st) dvs [] f fd
end L2
set_option Elab.async false
set_option linter.all false
set_option maxRecDepth 100000
set_option maxHeartbeats 4000000
/-! Truetouch: answers to the readings. -/
namespace L2
open PySem PySem.Spec PyProof.Rows Evl
theorem iT {p q : Prop} (h : p) : if (true = true) then p else q := by rw [if_pos rfl]; exact h
theorem iF {p q : Prop} (h : q) : if (false = true) then p else q := by rw [if_neg Bool.false_ne_true]; exact h
/-- a test that comes out as b -/
theorem iB {p q : Prop} {c b : Bool} (e : c = b) (h1 : b = true → p) (h2 : b = false → q) : if c = true then p else q := by
  subst e
  cases c with
  | true => exact iT (h1 rfl)
  | false => exact iF (h2 rfl)
theorem iP {p q : Prop} {c : Bool} (e : c = true) (h : p) : if c = true then p else q := by rw [if_pos e]; exact h
theorem iN {p q : Prop} {c : Bool} (e : c = false) (h : q) : if c = true then p else q := by rw [e]; exact iF h
section
variable {K : PySem.W.Frag} {H H' : Hp} {σ : St} {x y v : V} {Q : VK} {X : Cx}
/-- the type of data -/
def dty : PyData → Value
  | .none => .type "NoneType"
  | .bool _ => .type "bool"
  | .int _ => .type "int"
  | .str _ => .type "str"
  | .list _ => .type "list"
  | .tuple _ => .type "tuple"
  | .dict _ => .type "dict"
theorem SqT.ty {a : Addr} {xs : List V} (h : SqT K H a xs) : TyX K H (.ref a) (.type "tuple") := by
  rcases h with (h | ⟨o, h⟩) | ⟨o, its, n, h, c, _⟩
  · exact .base (.tup h)
  · exact .fTuple h
  · exact .kTuple h c
theorem SqL.ty {a : Addr} {xs : List V} (h : SqL K H a xs) : TyX K H (.ref a) (.type "list") := by
  rcases h with (h | ⟨o, h⟩) | ⟨o, its, n, h, c, _⟩
  · exact .base (.lst h)
  · exact .base (.frz h)
  · exact .kList h c
theorem Dp.ty {d : PyData} (h : Dp K H v d) : TyX K H v (dty d) := by
  cases h with
  | non => exact .base .non
  | bl b => exact .base (.bl b)
  | int i => exact .base (.int i)
  | str x => exact .base (.str x)
  | lst h _ => exact SqL.ty h
  | tup h _ => exact SqT.ty h
/-- isinstance(x, B) as a test -/
theorem rd_isi {i : Nat} {t : Value} {B : String} {b : Bool} {R : Bool → Hp → Prop} (h : σ[i]? = some (some x)) (ty : TyX K H x t) (e : PySem.W.kitOne K t (.type B) = some b) (q : R b H) :
    tB (tCB (rIsi K) (tCons (tVar i) (tCons (tC (.ty B)) tNil))) σ H R := ⟨x, h, x, .ty B, t, .type B, b, rfl, .ty B, ty, e, b, rfl, q⟩
/-- .. as a value -/
theorem rv_isi {i : Nat} {t : Value} {B : String} {b : Bool} (h : σ[i]? = some (some x)) (ty : TyX K H x t) (e : PySem.W.kitOne K t (.type B) = some b) (q : Q (.bl b) H) :
    tCB (rIsi K) (tCons (tVar i) (tCons (tC (.ty B)) tNil)) σ H Q := ⟨x, h, x, .ty B, t, .type B, b, rfl, .ty B, ty, e, q⟩
/-- isinstance(x, (list, tuple)) -/
theorem rd_isiT {i : Nat} {t : Value} {b : Bool} {R : Bool → Hp → Prop} (h : σ[i]? = some (some x)) (ty : ∀ H', Ex H H' → TyX K H' x t) (e : PySem.W.kitAny K t [.type "list", .type "tuple"] = some b) (q : ∀ H', Ex H H' → R b H') :
    tB (tCB (rIsiT K) (tCons (tVar i) (tCons (tTup (tCons (tC (.ty "list")) (tCons (tC (.ty "tuple")) tNil))) tNil))) σ H R :=
  ⟨x, h, by show 2 ≤ sizeLine; decide, fun p hp => ⟨x, p, _, t, _, b, rfl, upd_same, .cons (.ty _) (.cons (.ty _) .nil), ty _ (Ex.new hp), e, b, rfl, q _ (Ex.new hp)⟩⟩
/-! ### subscripts, len, in, ==, of data -/
section
variable {P : Program} {w : World}
theorem ix_t {ds : List PyData} {i : Int} {d : PyData} (h : Dp K H x (.tuple ds)) (e : atI ds i = some d) (q : ∀ v, Dp K H v d → Q v H) : rIxA P w K x (.int i) H Q := by
  unfold rIxA
  obtain ⟨a, xs, rfl, h1, h2⟩ := h.tupI
  unfold atI at e
  have hl := h2.len
  cases hj : ixN ds.length i with
  | none => rw [hj] at e; cases e
  | some j =>
    rw [hj] at e
    obtain ⟨v, hv, hd⟩ := h2.at (i := j) e
    exact .inr (.inl ⟨a, xs, i, v, rfl, rfl, h1, by unfold atI; rw [hl, hj]; exact hv, q v hd⟩)
theorem atN {α : Type} {xs : List α} {j : Nat} {d : α} (h : xs[j]? = some d) : atI xs (j : Int) = some d := by
  have hj : j < xs.length := (List.getElem?_eq_some_iff.mp h).1
  unfold atI ixN
  rw [if_pos (by omega), if_pos (by omega)]
  exact h
theorem atZ {α : Type} {xs : List α} {i : Int} {d : α} (h0 : 0 ≤ i) (h : xs[i.toNat]? = some d) : atI xs i = some d := by
  have e : i = (i.toNat : Int) := by omega
  rw [e]; exact atN h
/-- a row of numbers at a place -/
theorem ix_r {r : List Int} {i j : Int} (h : Dp K H x (dRow r)) (e : atI r i = some j) (q : Q (.int j) H) : rIxA P w K x (.int i) H Q := by
  refine ix_t (ds := r.map PyData.int) (d := .int j) h ?_ fun v hv => ?_
  · unfold atI at e ⊢
    rw [List.length_map]
    cases hj : ixN r.length i with
    | none => rw [hj] at e; cases e
    | some k =>
      rw [hj] at e
      show (r.map PyData.int)[k]? = _
      rw [List.getElem?_map, show r[k]? = some j from e]; rfl
  · rw [hv.intI]; exact q
theorem ix_l {p : Addr} {xs : List V} {i : Int} (h : SqL K H p xs) (e : atI xs i = some v) (q : Q v H) : rIxA P w K (.ref p) (.int i) H Q := by
  unfold rIxA
  exact .inl ⟨p, xs, i, v, rfl, rfl, h, e, q⟩
theorem ix_k {a : Addr} {kvs : List (Key × V)} {k : Key} (h : Rd H a (.dK kvs)) (e : valV kvs k = some v) (q : Q v H) : rIxA P w K (.ref a) (kV k) H Q := by
  unfold rIxA
  exact
  .inr (.inr (.inr ⟨a, v, rfl, .d (.inl ⟨kvs, k, h, rfl, e.symm⟩), q⟩))
theorem ix_n {κ : Type} [DecidableEq κ] {E : Emb κ} {a : Addr} {kvs : List (κ × V)} {k : κ} (h : NDr E P w K H a kvs) (hk : Dp K H y (E.key k).data) (e : valV kvs k = some v) (q : Q v H) : rIxA P w K (.ref a) y H Q := by
  unfold rIxA
  exact
  .inr (.inr (.inr ⟨a, v, rfl, by rw [← e]; exact .n h hk, q⟩))
theorem len_t {ds : List PyData} (h : Dp K H x (.tuple ds)) (q : Q (.int ds.length) H) : rLenA P w K [x] H Q := by
  unfold rLenA
  obtain ⟨a, xs, rfl, h1, h2⟩ := h.tupI
  exact .inl ⟨_, ds.length, rfl, .inr ⟨xs, h1, h2.len.symm⟩, q⟩
theorem len_l {a : Addr} {xs : List V} (h : SqL K H a xs) (q : Q (.int xs.length) H) : rLenA P w K [.ref a] H Q := by
  unfold rLenA
  exact .inl ⟨_, xs.length, rfl, .inl ⟨xs, h, rfl⟩, q⟩
theorem len_s {z : Str} (h : z.length ≤ sizeLine) (q : Q (.int z.length) H) : rLenA P w K [.str z] H Q := by
  unfold rLenA
  exact .inl ⟨_, z.length, rfl, ⟨h, rfl⟩, q⟩
theorem len_n {κ : Type} [DecidableEq κ] {E : Emb κ} {a : Addr} {kvs : List (κ × V)} (h : NDr E P w K H a kvs) (q : Q (.int kvs.length) H) : rLenA P w K [.ref a] H Q := by
  unfold rLenA
  exact .inr ⟨κ, inferInstance, E, a, kvs, rfl, h, q⟩
theorem inV_ints {j : Int} {r : List Int} : inV (.int j) (r.map V.int) = r.contains j := by
  unfold inV
  rw [List.any_map]
  induction r with
  | nil => rfl
  | cons a t ih => rw [List.any_cons, List.contains_cons, ih]; show ((a == j) || _) = ((j == a) || _); rw [Bool.beq_comm]
theorem in_r {r : List Int} {j : Int} (h : Dp K H y (dRow r)) (q : Q (.bl (r.contains j)) H) : rInA P w K (.int j) y H Q := by
  unfold rInA
  obtain ⟨a, rfl, h1⟩ := h.row
  exact .inl ⟨a, _, rfl, .inr h1, rfl, flat_ints r, by show Q (.bl (inV _ _)) H; rw [inV_ints]; exact q⟩
theorem ni_r {r : List Int} {j : Int} (h : Dp K H y (dRow r)) (q : Q (.bl (!r.contains j)) H) : rNotInA P w K (.int j) y H Q := by
  unfold rNotInA
  obtain ⟨a, rfl, h1⟩ := h.row
  exact .inl ⟨a, _, rfl, .inr h1, rfl, flat_ints r, by show Q (.bl (!inV _ _)) H; rw [inV_ints]; exact q⟩
theorem in_k {a : Addr} {kvs : List (Key × V)} {k : Key} (h : Rd H a (.dK kvs)) (q : Q (.bl (valV kvs k).isSome) H) : rInA P w K (kV k) (.ref a) H Q := by
  unfold rInA
  exact .inr (.inr ⟨a, _, rfl, .d (.inl ⟨kvs, k, h, rfl, rfl⟩), q⟩)
theorem ni_k {a : Addr} {kvs : List (Key × V)} {k : Key} (h : Rd H a (.dK kvs)) (q : Q (.bl (!(valV kvs k).isSome)) H) : rNotInA P w K (kV k) (.ref a) H Q := by
  unfold rNotInA
  exact .inr (.inr ⟨a, _, rfl, .d (.inl ⟨kvs, k, h, rfl, rfl⟩), q⟩)
theorem in_n {κ : Type} [DecidableEq κ] {E : Emb κ} {a : Addr} {kvs : List (κ × V)} {k : κ} (h : NDr E P w K H a kvs) (hk : Dp K H y (E.key k).data) (q : Q (.bl (valV kvs k).isSome) H) : rInA P w K y (.ref a) H Q := by
  unfold rInA
  exact .inr (.inr ⟨a, _, rfl, .n h hk, q⟩)
theorem ni_n {κ : Type} [DecidableEq κ] {E : Emb κ} {a : Addr} {kvs : List (κ × V)} {k : κ} (h : NDr E P w K H a kvs) (hk : Dp K H y (E.key k).data) (q : Q (.bl (!(valV kvs k).isSome)) H) : rNotInA P w K y (.ref a) H Q := by
  unfold rNotInA
  exact .inr (.inr ⟨a, _, rfl, .n h hk, q⟩)
theorem eq_i {i j : Int} (q : Q (.bl (decide (i = j))) H) : rEqA K (.int i) (.int j) H Q := by
  unfold rEqA
  exact .inl ⟨rfl, by have e : decide (V.int i = V.int j) = decide (i = j) := by { rw [Bool.eq_iff_iff]; simp }; rw [e]; exact q⟩
theorem eq_s {i j : Str} (q : Q (.bl (decide (i = j))) H) : rEqA K (.str i) (.str j) H Q := by
  unfold rEqA
  exact .inl ⟨rfl, by have e : decide (V.str i = V.str j) = decide (i = j) := by { rw [Bool.eq_iff_iff]; simp }; rw [e]; exact q⟩
theorem ne_i {i j : Int} (q : Q (.bl (!decide (i = j))) H) : rNeA K (.int i) (.int j) H Q := by
  unfold rNeA
  exact .inl ⟨rfl, by have e : decide (V.int i = V.int j) = decide (i = j) := by { rw [Bool.eq_iff_iff]; simp }; rw [e]; exact q⟩
theorem ne_s {i j : Str} (q : Q (.bl (!decide (i = j))) H) : rNeA K (.str i) (.str j) H Q := by
  unfold rNeA
  exact .inl ⟨rfl, by have e : decide (V.str i = V.str j) = decide (i = j) := by { rw [Bool.eq_iff_iff]; simp }; rw [e]; exact q⟩
theorem add_i {i j : Int} (q : Q (.int (i + j)) H) : rAddA K (.int i) (.int j) H Q := by
  unfold rAddA
  exact .inl ⟨i, j, rfl, rfl, q⟩
theorem add_s {i j : Str} (h : i.length + j.length ≤ sizeLine) (q : Q (.str (i ++ j)) H) : rAddA K (.str i) (.str j) H Q := by
  unfold rAddA
  exact .inr (.inl ⟨i, j, rfl, rfl, h, q⟩)
end
section
variable {P : Program} {w : World}
/-- data without a dict of its own, at a place -/
theorem ix_d {ds : List PyData} {i : Int} {d : PyData} (h : Dt H x (.tuple ds)) (e : atI ds i = some d) (q : ∀ v, Dt H v d → Q v H) : rIxA P w K x (.int i) H Q := by
  unfold rIxA
  obtain ⟨a, o, xs, rfl, h1, _, h2⟩ := h.tupI
  unfold atI at e
  have hl := h2.len
  cases hj : ixN ds.length i with
  | none => rw [hj] at e; cases e
  | some j =>
    rw [hj] at e
    obtain ⟨v, hv, hd⟩ := h2.at (i := j) e
    exact .inr (.inl ⟨a, xs, i, v, rfl, rfl, .inl (.inr ⟨o, h1⟩), by unfold atI; rw [hl, hj]; exact hv, q v hd⟩)
theorem ix_s {z : Str} {i : Int} {c : Nat} (h : z.length ≤ sizeLine) (e : atI z.cps.toList i = some c) (q : Q (.str ⟨#[c]⟩) H) : rIxA P w K (.str z) (.int i) H Q := by
  unfold rIxA
  exact .inr (.inr (.inl ⟨z, i, c, rfl, rfl, h, e, q⟩))
/-- tuple(a list), known to have no dict -/
theorem tup_l {a : Addr} {xs : List V} (h : SqL K H a xs) (q : ∀ l o, H l = none → o.dict = none → Q (.ref l) (upd H l (.frz o (.tup xs)))) : rTupN K [.ref a] H Q := by
  unfold rTupN
  exact ⟨a, xs, rfl, .inl ⟨h, q⟩⟩
/-- .. of data -/
theorem tup_d {a : Addr} {xs : List V} {ds : List PyData} (h : SqL K H a xs) (hd : DtAll H xs ds) (q : ∀ v H', Ex H H' → Dt H' v (.tuple ds) → Q v H') : rTupN K [.ref a] H Q :=
  tup_l h fun l o hl ho => q _ _ (Ex.new hl) (.tup upd_same ho (hd.ex (Ex.new hl)))
theorem tup_p {a : Addr} {xs : List V} {ds : List PyData} (h : SqL K H a xs) (hd : DpAll K H xs ds) (q : ∀ v H', Ex H H' → Dp K H' v (.tuple ds) → Q v H') : rTupN K [.ref a] H Q :=
  tup_l h fun l o hl ho => q _ _ (Ex.new hl) (.tup (.inl (.inr ⟨o, upd_same⟩)) (DpAll.ex (Ex.new hl) _ _ hd))
theorem tup_t {a : Addr} {xs : List V} (h : SqT K H a xs) (q : Q (.ref a) H) : rTupN K [.ref a] H Q := by
  unfold rTupN
  exact ⟨a, xs, rfl, .inr ⟨h, q⟩⟩
/-- (a, b, ..) of data -/
theorem tupN_d {xs : List V} {ds : List PyData} (hd : DtAll H xs ds) (z : xs.length ≤ 100) (q : ∀ v H', Ex H H' → Dt H' v (.tuple ds) → Q v H') : rNewT xs H Q := by
  unfold rNewT
  exact ⟨by rw [sizeLine_eq]; omega, fun p o hp ho => q _ _ (Ex.new hp) (.tup upd_same ho (hd.ex (Ex.new hp)))⟩
theorem tupN_p {xs : List V} {ds : List PyData} (hd : DpAll K H xs ds) (z : xs.length ≤ 100) (q : ∀ v H', Ex H H' → Dp K H' v (.tuple ds) → Q v H') : rNewT xs H Q := by
  unfold rNewT
  exact ⟨by rw [sizeLine_eq]; omega, fun p o hp ho => q _ _ (Ex.new hp) (.tup (.inl (.inr ⟨o, upd_same⟩)) (DpAll.ex (Ex.new hp) _ _ hd))⟩
theorem ty_t {p : Addr} {o : Obj} {xs : List V} (h : H p = some (.frz o (.tup xs))) (hd : o.dict = none) : tyN P w K "tuple" (.ref p) H := by
  unfold tyN
  exact ⟨p, rfl, .inl ⟨rfl, o, xs, h, hd⟩⟩
theorem ty_k {p : Addr} {kvs : List (Key × V)} (h : Rd H p (.dK kvs)) : tyN P w K "dict" (.ref p) H := by
  unfold tyN
  exact ⟨p, rfl, .inr ⟨rfl, .inl ⟨kvs, h⟩⟩⟩
theorem ty_n {κ : Type} [DecidableEq κ] {E : Emb κ} {a : Addr} {kvs : List (κ × V)} (h : NDr E P w K H a kvs) : tyN P w K "dict" (.ref a) H := by
  unfold tyN
  exact ⟨a, rfl, .inr ⟨rfl, .inr ⟨κ, inferInstance, E, kvs, h⟩⟩⟩
theorem get_k {a : Addr} {kvs : List (Key × V)} {k : Key} {z : V} (h : Rd H a (.dK kvs)) (q : Q ((valV kvs k).getD z) H) : rGet2 P w K (.ref a) [kV k, z] H Q := by
  unfold rGet2
  exact ⟨a, _, z, _, rfl, rfl, .d (.inl ⟨kvs, k, h, rfl, rfl⟩), q⟩
theorem get_n {κ : Type} [DecidableEq κ] {E : Emb κ} {a : Addr} {kvs : List (κ × V)} {k : κ} {z : V} (h : NDr E P w K H a kvs) (hk : Dp K H y (E.key k).data) (q : Q ((valV kvs k).getD z) H) : rGet2 P w K (.ref a) [y, z] H Q := by
  unfold rGet2
  exact ⟨a, _, z, _, rfl, rfl, .n h hk, q⟩
theorem set_k {a : Addr} {kvs : List (Key × V)} {k : Key} {z : V} {R : Hp → Prop} (h : H a = some (.dK kvs)) (hl : kvs.length < sizeLine) (q : R (upd H a (.dK (putK kvs k z)))) : rSetA P w K (.ref a) (kV k) z H R := by
  unfold rSetA
  exact .inr ⟨a, rfl, .d (.k h hl) q⟩
theorem set_n {κ : Type} [DecidableEq κ] {E : Emb κ} {a : Addr} {kvs : List (κ × V)} {k : κ} {z : V} {R : Hp → Prop} (h : ND E P w K H a kvs) (hl : kvs.length < sizeLine) (hk : Dt H y (E.key k).data) (q : ∀ o, ND E P w K (upd H a o) a (putK kvs k z) → R (upd H a o)) : rSetA P w K (.ref a) y z H R := by
  unfold rSetA
  exact .inr ⟨a, rfl, .n h hl hk q⟩
theorem set_l {a : Addr} {i : Int} {z : V} {R : Hp → Prop} (q : rSetL (.ref a) (.int i) z H R) : rSetA P w K (.ref a) (.int i) z H R := by
  unfold rSetA
  exact .inl q
theorem tru_v {k : Bool} {R : Bool → Hp → Prop} (h : TruV K x H k) (q : R k H) : rTruA P w K x H R := by
  unfold rTruA
  exact .inl ⟨k, h, q⟩
theorem tru_n {κ : Type} [DecidableEq κ] {E : Emb κ} {a : Addr} {kvs : List (κ × V)} {R : Bool → Hp → Prop} (h : NDr E P w K H a kvs) (q : R ((kvs.length : Int) != 0) H) : rTruA P w K (.ref a) H R := by
  unfold rTruA
  exact .inr ⟨κ, inferInstance, E, a, kvs, rfl, h, q⟩
theorem slc_l {a : Addr} {xs : List V} {lo hi : Option Int} (h : SqL K H a xs) (q : ∀ p, H p = none → Q (.ref p) (upd H p (.lst (cutV xs lo hi)))) : rSlX K (.ref a) lo hi H Q := by
  unfold rSlX
  exact .inl ⟨a, xs, rfl, h, q⟩
theorem slc_s {z : Str} {lo hi : Option Int} (h : z.length ≤ sizeLine) (q : Q (.str (cutS z lo hi)) H) : rSlX K (.str z) lo hi H Q := by
  unfold rSlX
  exact .inr (.inr ⟨z, rfl, h, q⟩)
theorem eq_d {d e : PyData} (h1 : Dp K H x d) (h2 : Dp K H y e) (s1 : SeqAt.shaped d = true) (s2 : SeqAt.shaped e = true) (q : Q (.bl (PyData.eqv d e)) H) : rEqA K x y H Q := by
  unfold rEqA
  exact .inr ⟨d, e, h1, h2, s1, s2, q⟩
theorem ne_d {d e : PyData} (h1 : Dp K H x d) (h2 : Dp K H y e) (s1 : SeqAt.shaped d = true) (s2 : SeqAt.shaped e = true) (q : Q (.bl (!PyData.eqv d e)) H) : rNeA K x y H Q := by
  unfold rNeA
  exact .inr ⟨d, e, h1, h2, s1, s2, q⟩
theorem add_l {a b : Addr} {xs ys : List V} (h1 : H a = some (.lst xs)) (h2 : H b = some (.lst ys)) (z : xs.length + ys.length ≤ sizeLine) (q : ∀ p, H p = none → Q (.ref p) (upd H p (.lst (xs ++ ys)))) : rAddA K (.ref a) (.ref b) H Q := by
  unfold rAddA
  exact .inr (.inr (.inl ⟨a, b, xs, ys, rfl, rfl, h1, h2, z, q⟩))
/-- t + u of data -/
theorem add_t {ds es : List PyData} (h1 : Dp K H x (.tuple ds)) (h2 : Dp K H y (.tuple es)) (z : ds.length + es.length ≤ sizeLine) (q : ∀ v H', Ex H H' → Dp K H' v (.tuple (ds ++ es)) → Q v H') : rAddA K x y H Q := by
  unfold rAddA
  obtain ⟨a, xs, rfl, h1, h3⟩ := h1.tupI
  obtain ⟨b, ys, rfl, h2, h4⟩ := h2.tupI
  refine .inr (.inr (.inr ⟨a, b, xs, ys, rfl, rfl, h1, h2, by rw [h3.len, h4.len]; exact z, fun e => ?_, fun _ e => ?_, fun _ _ p hp => ?_⟩))
  · subst e
    cases h3
    exact q _ _ (Ex.refl _) (.tup h2 h4)
  · subst e
    cases h4
    refine q _ _ (Ex.refl _) ?_
    rw [List.append_nil]
    exact .tup h1 h3
  · exact q _ _ (Ex.new hp) (.tup (st_of upd_same) ((DpAll.ex (Ex.new hp) _ _ h3).app (DpAll.ex (Ex.new hp) _ _ h4)))
/-- t[lo:hi] of data -/
theorem slc_t {ds : List PyData} {lo hi : Option Int} (h1 : Dp K H x (.tuple ds)) (q : ∀ v H', Ex H H' → Dp K H' v (.tuple ((ds.drop (HT.sIx ds.length 0 lo)).take (HT.sIx ds.length ds.length hi - HT.sIx ds.length 0 lo))) → Q v H') : rSlX K x lo hi H Q := by
  unfold rSlX
  obtain ⟨a, xs, rfl, h1, h3⟩ := h1.tupI
  have hl := h3.len
  refine .inr (.inl ⟨a, xs, rfl, h1, fun e => ?_, fun _ p hp => ?_⟩)
  · refine q _ _ (Ex.refl _) ?_
    rw [hl] at e
    rw [e.1, e.2, List.drop_zero, Nat.sub_zero, List.take_length]
    exact .tup h1 h3
  · refine q _ _ (Ex.new hp) (.tup (st_of upd_same) ?_)
    unfold cutV
    rw [hl]
    exact ((DpAll.ex (Ex.new hp) _ _ h3).drop _).take _
end
section
variable {P : Program} {w : World}
theorem in_s {i j : Str} {b : Bool} (e : (Builtin.Str.occurrences j i 0 j.length 1).isEmpty = !b) (q : Q (.bl b) H) : rInA P w K (.str i) (.str j) H Q := by
  unfold rInA
  refine .inr (.inl ⟨i, j, rfl, rfl, ?_⟩)
  rw [e, Bool.not_not]
  exact q
theorem ni_s {i j : Str} {b : Bool} (e : (Builtin.Str.occurrences j i 0 j.length 1).isEmpty = b) (q : Q (.bl b) H) : rNotInA P w K (.str i) (.str j) H Q := by
  unfold rNotInA
  refine .inr (.inl ⟨i, j, rfl, rfl, ?_⟩)
  rw [e, Bool.not_not]
  exact q
theorem yT {A B : Hp → Prop} (h : A H) : tYes σ H (fun b H3 => if b = true then A H3 else B H3) := iT (p := A H) (q := B H) h
end
theorem Dt.ofRow {a : Addr} {o : Obj} {r : List Int} (h : H a = some (.frz o (.tup (r.map V.int)))) (hd : o.dict = none) : Dt H (.ref a) (dRow r) := .tup h hd (DtAll.ofInts r)
theorem Dt.row {r : List Int} (h : Dt H v (dRow r)) : ∃ a o, v = .ref a ∧ H a = some (.frz o (.tup (r.map V.int))) ∧ o.dict = none := by
  obtain ⟨a, o, xs, e, h1, h2, h3⟩ := h.tupI
  rw [DpAll.ints (h3.dp (K := []))] at h1
  exact ⟨a, o, e, h1, h2⟩
/-! ### rules within a comprehension: the fragment told -/
section
variable {Y : Cx} {k0 : PySem.W.Frag}
theorem pi_tupK {tg e : Expr} {td : TE} (he : PE Y e td) (hK : Y.K = k0 := by rfl) : PI Y tg e (iTup k0 td) := by
  subst hK
  exact pi_tup he
theorem pi_listK {tg e : Expr} {td : TE} (he : PE Y e td) (hK : Y.K = k0 := by rfl) : PI Y tg e (iList k0 td) := by
  subst hK
  exact pi_list he
theorem pe_fldK {e : Expr} {f0 : Str} {pos : Pos} {td : TE} (he : PE Y e td) (hb : attributeBase e f0 Y.env (eval e Y.env) = eval e Y.env) (hK : Y.K = k0 := by rfl) : PE Y (.Attribute e f0 pos) (tFld k0 td f0) := by
  subst hK
  exact pe_fld he hb
end
/-! ### comprehensions whose heap only grows -/
/-- behind turn i: the new list at D holds acc, all else of H1 stands -/
def LcP (D : Addr) (H1 : Hp) (Ψ : Nat → List V → Hp → Prop) (i : Nat) (H : Hp) : Prop := ∃ acc, H D = some (.lst acc) ∧ Ex H1 H ∧ acc.length ≤ i ∧ Ψ i acc H
def LcN (D : Addr) (H1 : Hp) (Ψ : Nat → List V → Hp → Prop) (i : Nat) (y : V) (H4 : Hp) : Prop := ∃ acc, H4 D = some (.lst acc) ∧ acc.length < sizeLine ∧ LcP D H1 Ψ (i + 1) (upd H4 D (.lst (acc ++ [y])))
/-- stays while tuples stay -/
def TpS (Ψ : Nat → List V → Hp → Prop) : Prop := ∀ i acc H H', Tp H H' → Ψ i acc H → Ψ i acc H'
theorem LcN.mk {D : Addr} {H1 H H4 : Hp} {Ψ : Nat → List V → Hp → Prop} {i : Nat} {y : V} {acc : List V} (tp : TpS Ψ) (n : H1 D = none) (h : H D = some (.lst acc)) (e1 : Ex H1 H) (e : Ex H H4) (l : acc.length ≤ i) (z : i < sizeLine) (p : Ψ (i + 1) (acc ++ [y]) H4) : LcN D H1 Ψ i y H4 :=
  ⟨acc, e _ _ h, by omega, acc ++ [y], upd_same, Ex.mut (e1.trans e) n, by simp; omega, tp _ _ _ _ (Tp.upd (Sft.lst (e _ _ h))) p⟩
theorem LcP.mk {D : Addr} {H1 H H3 : Hp} {Ψ : Nat → List V → Hp → Prop} {i : Nat} {acc : List V} (h : H D = some (.lst acc)) (e1 : Ex H1 H) (e : Ex H H3) (l : acc.length ≤ i) (p : Ψ (i + 1) acc H3) : LcP D H1 Ψ (i + 1) H3 :=
  ⟨acc, e _ _ h, e1.trans e, by omega, p⟩
theorem lc_gen {J : It} {n : Nat} {G : Hp → Prop} {Y : Nat → Hp → V → Hp → Prop} (w : Walk J n G Y) {g : TG} {tt : TT} {te : TE} {vs : List Nat} {H1 : Hp} {D : Addr} {Qd : Hp → Prop} (Ψ : Nat → List V → Hp → Prop)
    (tp : TpS Ψ) (nD : H1 D = none) (h0 : Ψ 0 [] H1) (hG : ∀ H, Ex H1 H → G H)
    (hs : ∀ i x acc H H', i < n → acc.length ≤ i → H D = some (.lst acc) → Ex H1 H → Ψ i acc H → Y i H x H' → g x (wipe σ vs) H' fun σ2 H2 => wipe σ2 vs = wipe σ vs ∧ tt σ2 H2 fun b H3 =>
      if b = true then te σ2 H3 fun y H4 => LcN D H1 Ψ i y H4 else LcP D H1 Ψ (i + 1) H3)
    (hd : ∀ ys H, Ex H1 H → H D = some (.lst ys) → ys.length ≤ n → Ψ n ys H → Qd H) :
    ∃ W : Nat → Nat → Hp → Prop, (∃ m, W 0 m (upd H1 D (.lst []))) ∧ ∀ i m H, W i m H →
      (J.stop i H ∧ Qd H) ∨ (J.go i H ∧ ∃ Nx : Hp → Prop, (∀ H', Nx H' → ∃ m', m' < m ∧ W (i + 1) m' H') ∧ ∀ x H', J.yld i H x H' → g x (wipe σ vs) H' fun σ2 H2 => wipe σ2 vs = wipe σ vs ∧ tt σ2 H2 fun b H3 =>
        if b = true then te σ2 H3 fun y H4 => ∃ acc, H4 D = some (.lst acc) ∧ acc.length < sizeLine ∧ Nx (upd H4 D (.lst (acc ++ [y]))) else Nx H3) := by
  refine lc_it w (LcP D H1 Ψ) ⟨[], upd_same, Ex.new nD, Nat.le_refl _, tp _ _ _ _ (Tp.of (Ex.new nD)) h0⟩ (fun i H _ ⟨acc, _, e, _⟩ => hG H e) (fun i x H H' hi p y => ?_) (fun H p => ?_)
  · obtain ⟨acc, h, e, l, q⟩ := p
    exact hs i x acc H H' hi l h e q y
  · obtain ⟨acc, h, e, l, q⟩ := p
    exact hd acc H e h l q
end
end L2
set_option Elab.async false
set_option linter.all false
/-! Plain mathematics: rows, moves, changes. -/
namespace L2
/-- 1, 2, .., n -/
def rgI (n : Nat) : List Int := (List.range n).map fun (i : Nat) => 1 + (i : Int)
/-- n numbers from s on -/
def rgR : Nat → Int → List Int
  | 0, _ => []
  | n + 1, s => s :: rgR n (s + 1)
/-- the row that a move makes of a row -/
def tms (r m : List Int) : List Int := m.map fun p => r.getD (p - 1).toNat 0
/-- a change of the n places from s on -/
inductive Mad : Nat → Int → List Int → Prop
  | done {s} : Mad 0 s []
  | keep {n s c} : Mad n (s + 1) c → Mad (n + 1) s (s :: c)
  | pair {n s c} : Mad n (s + 2) c → Mad (n + 2) s c
/-- the move of a change, n places from s on -/
def cmv (c : List Int) : Nat → Int → List Int
  | 0, _ => []
  | 1, s => [s]
  | n + 2, s => if c.contains s then s :: cmv c (n + 1) (s + 1) else (s + 1) :: s :: cmv c n (s + 2)
/-- .. whole -/
def mvOf (st : Nat) (c : List Int) : List Int := cmv c st 1
/-- rising, from lo to hi -/
def RisI (lo hi : Int) (r : List Int) : Prop := (∀ i ∈ r, lo ≤ i ∧ i ≤ hi) ∧ r.Pairwise (· < ·)
/-- a row of n bells -/
def Pm (n : Nat) (r : List Int) : Prop := r.length = n ∧ (∀ i ∈ r, 1 ≤ i ∧ i ≤ (n : Int)) ∧ r.Nodup
theorem rgI_length (n : Nat) : (rgI n).length = n := by simp [rgI]
theorem rgI_get {n j : Nat} (h : j < n) : (rgI n)[j]? = some (1 + (j : Int)) := by simp [rgI, h]
theorem tms_length (r m : List Int) : (tms r m).length = m.length := by simp [tms]
theorem getD_of {r : List Int} {j : Nat} {i : Int} (h : r[j]? = some i) : r.getD j 0 = i := by simp [List.getD, h]
theorem getD_some {r : List Int} {j : Nat} (h : j < r.length) : r[j]? = some (r.getD j 0) := by
  rw [List.getElem?_eq_getElem h, List.getD_eq_getElem?_getD, List.getElem?_eq_getElem h]; rfl
theorem rgR_length : ∀ (n : Nat) (s : Int), (rgR n s).length = n
  | 0, _ => rfl
  | n + 1, s => by simp [rgR, rgR_length n]
theorem rgR_get : ∀ (n : Nat) (s : Int) (j : Nat), j < n → (rgR n s)[j]? = some (s + j)
  | n + 1, s, 0, _ => by simp [rgR]
  | n + 1, s, j + 1, h => by
    have e := rgR_get n (s + 1) j (by omega)
    simp only [rgR, List.getElem?_cons_succ, e]
    congr 1; omega
theorem rgI_rgR (n : Nat) : rgI n = rgR n 1 := by
  apply List.ext_getElem?
  intro j
  by_cases h : j < n
  · rw [rgI_get h, rgR_get n 1 j h]
  · rw [List.getElem?_eq_none (by rw [rgI_length]; omega), List.getElem?_eq_none (by rw [rgR_length]; omega)]
theorem rgR_mem : ∀ (n : Nat) (s i : Int), i ∈ rgR n s ↔ s ≤ i ∧ i < s + n
  | 0, s, i => by simp only [rgR, List.not_mem_nil, false_iff]; omega
  | n + 1, s, i => by
    rw [rgR, List.mem_cons, rgR_mem n]
    omega
theorem rgR_nodup : ∀ (n : Nat) (s : Int), (rgR n s).Nodup
  | 0, _ => List.nodup_nil
  | n + 1, s => by
    rw [rgR, List.nodup_cons]
    refine ⟨fun h => ?_, rgR_nodup n _⟩
    have := (rgR_mem n (s + 1) s).mp h
    omega
/-! ### changes -/
theorem Mad.bnd {n : Nat} {s : Int} {c : List Int} (h : Mad n s c) : ∀ i ∈ c, s ≤ i ∧ i < s + n := by
  induction h with
  | done => intro i hi; cases hi
  | keep _ ih =>
    intro i hi
    rcases List.mem_cons.mp hi with e | hi
    · subst e; omega
    · have := ih i hi; omega
  | pair _ ih =>
    intro i hi
    have := ih i hi; omega
theorem Mad.sorted {n : Nat} {s : Int} {c : List Int} (h : Mad n s c) : c.Pairwise (· < ·) := by
  induction h with
  | done => exact List.Pairwise.nil
  | keep h ih => exact List.Pairwise.cons (fun i hi => by have := h.bnd i hi; omega) ih
  | pair _ ih => exact ih
theorem Mad.ris {n : Nat} {c : List Int} (h : Mad n 1 c) : RisI 1 n c := ⟨fun i hi => by have := h.bnd i hi; omega, h.sorted⟩
theorem Mad.len {n : Nat} {s : Int} {c : List Int} (h : Mad n s c) : c.length ≤ n := by
  induction h with
  | done => simp
  | keep _ ih => simp; omega
  | pair _ ih => omega
/-- what stands at the first place -/
theorem Mad.step {n : Nat} {s : Int} {c : List Int} (h : Mad (n + 1) s c) : (c.contains s = true ∧ ∃ c', c = s :: c' ∧ Mad n (s + 1) c') ∨ (c.contains s = false ∧ ∃ k, n = k + 1 ∧ Mad k (s + 2) c) := by
  cases h with
  | keep h => exact .inl ⟨by simp, _, rfl, h⟩
  | pair h =>
    refine .inr ⟨?_, _, rfl, h⟩
    rw [Bool.eq_false_iff]
    intro e
    have := h.bnd s (by simpa using e)
    omega
theorem Mad.app {a b : Nat} {s : Int} {c d : List Int} (h : Mad a s c) (h2 : Mad b (s + a) d) : Mad (a + b) s (c ++ d) := by
  induction h with
  | done => simpa using h2
  | @keep n s c h ih =>
    have e : s + 1 + (n : Int) = s + ((n + 1 : Nat) : Int) := by omega
    have := ih (by rw [e]; exact h2)
    rw [show n + 1 + b = (n + b) + 1 by omega]
    exact .keep this
  | @pair n s c h ih =>
    have e : s + 2 + (n : Int) = s + ((n + 2 : Nat) : Int) := by omega
    have := ih (by rw [e]; exact h2)
    rw [show n + 2 + b = (n + b) + 2 by omega]
    exact .pair this
/-- mirrored -/
theorem Mad.mirror {n : Nat} {s : Int} {c : List Int} (h : Mad n s c) : ∀ (k t : Int), k = s + n - 1 + t → Mad n t ((c.map fun i => k - i).reverse) := by
  induction h with
  | done => intro k t _; exact .done
  | @keep n s c h ih =>
    intro k t e
    have h1 := ih k t (by omega)
    have h2 : Mad 1 (t + n) [k - s] := by
      have e2 : k - s = t + n := by omega
      rw [e2]; exact .keep .done
    have := h1.app h2
    simpa using this
  | @pair n s c h ih =>
    intro k t e
    have h1 := ih k t (by omega)
    have h2 : Mad 2 (t + n) [] := .pair .done
    have := h1.app h2
    simpa using this
/-- even gaps -/
def Gap : Int → List Int → Prop
  | _, [] => True
  | b, k :: l => (k - b - 1) % 2 = 0 ∧ Gap k l
theorem Mad.gap {n : Nat} {s : Int} {c : List Int} (h : Mad n s c) : ∀ b : Int, (s - b - 1) % 2 = 0 → Gap b (c ++ [s + n]) := by
  induction h with
  | @done s => intro b e; exact ⟨by simpa using e, trivial⟩
  | @keep n s c h ih =>
    intro b e
    refine ⟨e, ?_⟩
    have := ih s (by omega)
    rw [show s + 1 + (n : Int) = s + ((n + 1 : Nat) : Int) by omega] at this
    exact this
  | @pair n s c h ih =>
    intro b e
    have := ih b (by omega)
    rw [show s + 2 + (n : Int) = s + ((n + 2 : Nat) : Int) by omega] at this
    exact this
/-! ### moves -/
theorem cmv_length (c : List Int) : ∀ (n : Nat) (s : Int), (cmv c n s).length = n
  | 0, _ => rfl
  | 1, _ => rfl
  | n + 2, s => by
    unfold cmv
    split
    · simp [cmv_length c (n + 1)]
    · simp [cmv_length c n]
theorem cmv_mem (c : List Int) : ∀ (n : Nat) (s i : Int), i ∈ cmv c n s ↔ s ≤ i ∧ i < s + n
  | 0, s, i => by simp only [cmv, List.not_mem_nil, false_iff]; omega
  | 1, s, i => by simp [cmv]; omega
  | n + 2, s, i => by
    unfold cmv
    split
    · rw [List.mem_cons, cmv_mem c (n + 1)]; omega
    · rw [List.mem_cons, List.mem_cons, cmv_mem c n]; omega
theorem cmv_nodup (c : List Int) : ∀ (n : Nat) (s : Int), (cmv c n s).Nodup
  | 0, s => List.nodup_nil
  | 1, s => by simp [cmv]
  | n + 2, s => by
    unfold cmv
    split
    · rw [List.nodup_cons]
      exact ⟨fun h => by have := (cmv_mem c (n + 1) (s + 1) s).mp h; omega, cmv_nodup c (n + 1) _⟩
    · rw [List.nodup_cons, List.nodup_cons]
      refine ⟨fun h => ?_, fun h => ?_, cmv_nodup c n _⟩
      · rcases List.mem_cons.mp h with e | h
        · omega
        · have := (cmv_mem c n (s + 2) (s + 1)).mp h; omega
      · have := (cmv_mem c n (s + 2) s).mp h; omega
theorem mvOf_pm (n : Nat) (c : List Int) : Pm n (mvOf n c) :=
  ⟨cmv_length c n 1, fun i hi => by have := (cmv_mem c n 1 i).mp hi; omega, cmv_nodup c n 1⟩
theorem rgI_pm (n : Nat) : Pm n (rgI n) := by
  rw [rgI_rgR]
  exact ⟨rgR_length n 1, fun i hi => by have := (rgR_mem n 1 i).mp hi; omega, rgR_nodup n 1⟩
theorem Pm.tms {n : Nat} {r m : List Int} (hr : Pm n r) (hm : Pm n m) : Pm n (tms r m) := by
  obtain ⟨l1, b1, d1⟩ := hr
  obtain ⟨l2, b2, d2⟩ := hm
  refine ⟨by rw [tms_length, l2], fun i hi => ?_, ?_⟩
  · obtain ⟨p, hp, e⟩ := List.mem_map.mp hi
    have := b2 p hp
    subst e
    exact b1 _ (List.mem_of_getElem? (getD_some (by omega)))
  · unfold L2.tms
    rw [List.Nodup, List.pairwise_map]
    refine List.Pairwise.imp_of_mem (R := fun a b => a ≠ b) (fun {a b} ha hb hab e => ?_) d2
    have h1 := b2 a ha
    have h2 := b2 b hb
    have g1 : r[(a - 1).toNat]? = some (r.getD (a - 1).toNat 0) := getD_some (by omega)
    have g2 : r[(b - 1).toNat]? = some (r.getD (b - 1).toNat 0) := getD_some (by omega)
    rw [e, ← g2] at g1
    have := (List.getElem?_inj (by omega) d1).mp g1
    omega
end L2
set_option Elab.async false
set_option linter.all false
/-! Plain mathematics: how a drawn change grows; rows drawn. -/
namespace L2
/-- a change grown up to place s -/
def Tl (n s : Nat) (pre : List Int) : Prop := (s ≤ n ∧ ∀ c', Mad (n + 1 - s) s c' → Mad n 1 (pre ++ c')) ∨ (n < s ∧ Mad n 1 pre)
theorem Tl.init {n : Nat} (h : 1 ≤ n) : Tl n 1 [] := .inl ⟨h, fun c' h => by simpa using h⟩
theorem Tl.pair {n s : Nat} {pre : List Int} (h : Tl n s pre) (hs : s < n) : Tl n (s + 2) pre := by
  rcases h with ⟨_, f⟩ | ⟨h, _⟩
  · by_cases h2 : s + 2 ≤ n
    · refine .inl ⟨h2, fun c' hc => f c' ?_⟩
      rw [show n + 1 - s = (n + 1 - (s + 2)) + 2 by omega]
      exact .pair (by simpa using hc)
    · refine .inr ⟨by omega, ?_⟩
      have := f [] (by rw [show n + 1 - s = 0 + 2 by omega]; exact .pair .done)
      simpa using this
  · omega
theorem Tl.keep {n s : Nat} {pre : List Int} (h : Tl n s pre) (hs : s ≤ n) : Tl n (s + 1) (pre ++ [(s : Int)]) := by
  rcases h with ⟨_, f⟩ | ⟨h, _⟩
  · by_cases h2 : s + 1 ≤ n
    · refine .inl ⟨h2, fun c' hc => ?_⟩
      have := f ((s : Int) :: c') (by rw [show n + 1 - s = (n + 1 - (s + 1)) + 1 by omega]; exact .keep (by simpa using hc))
      simpa using this
    · refine .inr ⟨by omega, ?_⟩
      have := f [(s : Int)] (by rw [show n + 1 - s = 0 + 1 by omega]; exact .keep .done)
      simpa using this
  · omega
theorem Tl.stop {n s : Nat} {pre : List Int} (h : Tl n s pre) (hs : n < s) : Tl n (s + 1) pre := by
  rcases h with ⟨h, _⟩ | ⟨_, h⟩
  · omega
  · exact .inr ⟨by omega, h⟩
theorem Tl.mad {n s : Nat} {pre : List Int} (h : Tl n s pre) (hs : n < s) : Mad n 1 pre := by
  rcases h with ⟨h, _⟩ | ⟨_, h⟩
  · omega
  · exact h
/-- sorted, from a mirrored change -/
theorem sorted_mirror {n : Nat} {c l : List Int} (h : Mad n 1 c) (hp : l.Perm (c.map fun i => (n : Int) + 1 - i)) (hs : l.Pairwise (· ≤ ·)) : Mad n 1 l := by
  have m := h.mirror ((n : Int) + 1) 1 (by omega)
  have e : l = (c.map fun i => (n : Int) + 1 - i).reverse := by
    have p2 : l.Perm ((c.map fun i => (n : Int) + 1 - i).reverse) := hp.trans (List.reverse_perm _).symm
    refine List.Perm.eq_of_pairwise (le := (· ≤ ·)) (fun a b _ _ h1 h2 => Int.le_antisymm h1 h2) hs ?_ p2
    exact m.sorted.imp fun h => Int.le_of_lt h
  rw [e]
  exact m
theorem eraseIdx_perm {α : Type} : ∀ {l : List α} {k : Nat} {y : α}, l[k]? = some y → l.Perm (y :: l.eraseIdx k)
  | a :: l, 0, y, h => by simp at h; subst h; exact List.Perm.refl _
  | a :: l, k + 1, y, h => by
    have := eraseIdx_perm (l := l) (k := k) (y := y) (by simpa using h)
    exact (List.Perm.cons a this).trans (List.Perm.swap ..)
theorem eraseIdx_mapW {α β : Type} (g : α → β) : ∀ (l : List α) (k : Nat), (l.map g).eraseIdx k = (l.eraseIdx k).map g
  | [], _ => rfl
  | _ :: _, 0 => rfl
  | a :: l, k + 1 => by
    show g a :: (l.map g).eraseIdx k = g a :: (l.eraseIdx k).map g
    rw [eraseIdx_mapW g l k]
theorem Pm.of_perm {n : Nat} {r : List Int} (h : r.Perm (rgR n 1)) : Pm n r := by
  refine ⟨by rw [h.length_eq, rgR_length], fun i hi => ?_, (h.nodup_iff).mpr (rgR_nodup n 1)⟩
  have := (rgR_mem n 1 i).mp ((h.mem_iff).mp hi)
  omega
/-- as many holes as pigeons -/
theorem nodup_sub {α : Type} [DecidableEq α] : ∀ {l us : List α}, l.Nodup → (∀ x ∈ l, x ∈ us) → l.length ≤ us.length
  | [], _, _, _ => Nat.zero_le _
  | a :: l, us, hn, hs => by
    rw [List.nodup_cons] at hn
    have ha := hs a (List.mem_cons_self ..)
    have := nodup_sub (l := l) (us := us.erase a) hn.2 fun x hx => (List.mem_erase_of_ne (fun (e : x = a) => hn.1 (by rw [← e]; exact hx))).mpr (hs x (List.mem_cons_of_mem _ hx))
    rw [List.length_erase_of_mem ha] at this
    have hp : 0 < us.length := List.length_pos_of_mem ha
    simp only [List.length_cons]
    omega
/-! ### worlds -/
/-- stage, plain lead, calls (letter's code, place, changes) -/
structure Wd where
  st : Nat
  plain : List (List Int)
  calls : List (Nat × Nat × List (List Int))
structure CallOk (n k : Nat) (c : Nat × Nat × List (List Int)) : Prop where
  lo : 97 ≤ c.1
  hi : c.1 ≤ 122
  np : c.1 ≠ 112
  ne : c.2.2 ≠ []
  fit : c.2.1 + c.2.2.length ≤ k
  mad : ∀ x ∈ c.2.2, Mad n 1 x
structure WdOk (d : Wd) : Prop where
  s3 : 3 ≤ d.st
  s8 : d.st ≤ 8
  p1 : 1 ≤ d.plain.length
  p32 : d.plain.length ≤ 12
  mad : ∀ x ∈ d.plain, Mad d.st 1 x
  c5 : d.calls.length ≤ 5
  call : ∀ c ∈ d.calls, CallOk d.st d.plain.length c
  nd : (d.calls.map (·.1)).Nodup
end L2
set_option Elab.async false
set_option linter.all false
/-! Plain mathematics: leads, heads. -/
namespace L2
/-- the letters of a world: p = 112 first -/
def lts (d : Wd) : List Nat := 112 :: d.calls.map (·.1)
/-- the lead of a letter among calls -/
def leadIn (plain : List (List Int)) (cs : List (Nat × Nat × List (List Int))) (c : Nat) : List (List Int) := match cs.find? (fun k => k.1 == c) with
  | some k => plain.take k.2.1 ++ k.2.2 ++ plain.drop (k.2.1 + k.2.2.length)
  | none => plain
def leadOf (d : Wd) (c : Nat) : List (List Int) := leadIn d.plain d.calls c
/-- the row at the end of a lead -/
def hdRow (n : Nat) (lead : List (List Int)) : List Int := lead.foldl (fun r c => tms r (mvOf n c)) (rgI n)
def mvD (d : Wd) (c : Nat) : List Int := hdRow d.st (leadOf d c)
theorem leadIn_snoc_ne {plain : List (List Int)} {cs : List (Nat × Nat × List (List Int))} {k : Nat × Nat × List (List Int)} {c : Nat} (h : k.1 ≠ c) : leadIn plain (cs ++ [k]) c = leadIn plain cs c := by
  have e : (k.1 == c) = false := by simp [h]
  unfold leadIn
  rw [List.find?_append]
  simp [List.find?_cons, e]
theorem leadIn_snoc_eq {plain : List (List Int)} {cs : List (Nat × Nat × List (List Int))} {k : Nat × Nat × List (List Int)} {c : Nat} (h : k.1 = c) (hn : c ∉ cs.map (·.1)) :
    leadIn plain cs c = plain ∧ leadIn plain (cs ++ [k]) c = plain.take k.2.1 ++ k.2.2 ++ plain.drop (k.2.1 + k.2.2.length) := by
  have e : cs.find? (fun k => k.1 == c) = none := by
    rw [List.find?_eq_none]
    intro x hx e
    exact hn (List.mem_map.mpr ⟨x, hx, by simpa using e⟩)
  unfold leadIn
  rw [List.find?_append, e]
  refine ⟨rfl, ?_⟩
  simp [List.find?_cons, h]
theorem leadIn_facts {n : Nat} {plain : List (List Int)} : ∀ {cs : List (Nat × Nat × List (List Int))} (c : Nat), (∀ x ∈ plain, Mad n 1 x) → (∀ k ∈ cs, CallOk n plain.length k) → (∀ x ∈ leadIn plain cs c, Mad n 1 x) ∧ (leadIn plain cs c).length = plain.length := by
  intro cs c hp hc
  unfold leadIn
  split
  · rename_i k e
    have hk := hc k (List.mem_of_find?_eq_some e)
    have f := hk.fit
    refine ⟨fun x hx => ?_, by simp; omega⟩
    rcases List.mem_append.mp hx with hx | hx
    · rcases List.mem_append.mp hx with hx | hx
      · exact hp x (List.mem_of_mem_take hx)
      · exact hk.mad x hx
    · exact hp x (List.mem_of_mem_drop hx)
  · exact ⟨hp, rfl⟩
theorem hdRow_pm {n : Nat} {lead : List (List Int)} : Pm n (hdRow n lead) := by
  unfold hdRow
  have : ∀ (l : List (List Int)) (r : List Int), Pm n r → Pm n (l.foldl (fun r c => tms r (mvOf n c)) r) := by
    intro l
    induction l with
    | nil => intro r h; exact h
    | cons c l ih => intro r h; exact ih _ (h.tms (mvOf_pm n c))
  exact this _ _ (rgI_pm n)
theorem hdRow_snoc {n : Nat} {lead : List (List Int)} {c : List Int} : hdRow n (lead ++ [c]) = tms (hdRow n lead) (mvOf n c) := by
  unfold hdRow
  rw [List.foldl_append]
  rfl
theorem lts_nodup {d : Wd} (h : WdOk d) : (lts d).Nodup := by
  unfold lts
  rw [List.nodup_cons]
  refine ⟨fun e => ?_, h.nd⟩
  obtain ⟨k, hk, e⟩ := List.mem_map.mp e
  exact (h.call k hk).np e
theorem lts_len {d : Wd} (h : WdOk d) : (lts d).length ≤ 6 := by
  have := h.c5
  simp [lts]; omega
theorem lts_rng {d : Wd} (h : WdOk d) : ∀ c ∈ lts d, 97 ≤ c ∧ c ≤ 122 := by
  intro c hc
  rcases List.mem_cons.mp hc with e | hc
  · subst e; decide
  · obtain ⟨k, hk, e⟩ := List.mem_map.mp hc
    subst e
    exact ⟨(h.call k hk).lo, (h.call k hk).hi⟩
theorem mvD_pm (d : Wd) (c : Nat) : Pm d.st (mvD d c) := hdRow_pm
/-! ### tables -/
/-- a table of a conductor: many rows of n cells (letter, memory) -/
structure TbOk (n : Nat) (ls : List Nat) (many : Nat) (tb : List (List (Nat × Nat))) : Prop where
  len : tb.length = many
  row : ∀ r ∈ tb, r.length = n
  cell : ∀ r ∈ tb, ∀ x ∈ r, x.1 ∈ ls ∧ x.2 < many
end L2
set_option Elab.async false
set_option linter.all false
/-! Plain mathematics: a conductor's walk. -/
namespace L2
/-- a standing: (memory, row) -/
abbrev StdM := Int × List Int
/-- the place of bell b in a row, from 0 -/
def plc (b : Int) (r : List Int) : Nat := r.idxOf b
/-- the table's cell at a standing -/
def cel (tb : List (List (Nat × Nat))) (b : Int) (s : StdM) : Nat × Nat := (tb.getD s.1.toNat []).getD (plc b s.2) (0, 0)
def nxs (d : Wd) (tb : List (List (Nat × Nat))) (b : Int) (s : StdM) : StdM := (((cel tb b s).2 : Int), tms s.2 (mvD d (cel tb b s).1))
/-- the walk -/
def sq (d : Wd) (tb : List (List (Nat × Nat))) (b : Int) : Nat → StdM
  | 0 => (0, rgI d.st)
  | i + 1 => nxs d tb b (sq d tb b i)
/-- its letters -/
def lt (d : Wd) (tb : List (List (Nat × Nat))) (b : Int) (i : Nat) : Nat := (cel tb b (sq d tb b i)).1
/-- a standing of the walk's kind -/
structure SOk (d : Wd) (many : Nat) (s : StdM) : Prop where
  m0 : 0 ≤ s.1
  mm : s.1 < many
  pm : Pm d.st s.2
theorem mem_rgI {n : Nat} {i : Int} : i ∈ rgI n ↔ 1 ≤ i ∧ i ≤ n := by
  rw [rgI_rgR, rgR_mem]; omega
theorem Pm.mem {n : Nat} {r : List Int} (h : Pm n r) {b : Int} (h1 : 1 ≤ b) (h2 : b ≤ n) : b ∈ r := by
  obtain ⟨hl, hb, hn⟩ := h
  by_cases hm : b ∈ r
  · exact hm
  · have h3 : (b :: r).length ≤ (rgI n).length := nodup_sub (List.nodup_cons.mpr ⟨hm, hn⟩) fun x hx => by
      rw [mem_rgI]
      rcases List.mem_cons.mp hx with e | hx
      · subst e; exact ⟨h1, h2⟩
      · exact hb x hx
    rw [rgI_length, List.length_cons, hl] at h3
    omega
theorem plc_get {n : Nat} {r : List Int} (h : Pm n r) {b : Int} (h1 : 1 ≤ b) (h2 : b ≤ n) : r[plc b r]? = some b ∧ plc b r < n := by
  have hm := h.mem h1 h2
  have hl := List.idxOf_lt_length_of_mem hm
  refine ⟨?_, by rw [← h.1]; exact hl⟩
  unfold plc
  rw [List.getElem?_eq_getElem hl, List.getElem_idxOf hl]
section
variable {d : Wd} {tb : List (List (Nat × Nat))} {b : Int} {many : Nat} {ls : List Nat}
theorem cel_ok (hT : TbOk d.st ls many tb) (h1 : 1 ≤ b) (h2 : b ≤ d.st) {s : StdM} (hs : SOk d many s) :
    ∃ row, tb[s.1.toNat]? = some row ∧ row[plc b s.2]? = some (cel tb b s) ∧ (cel tb b s).1 ∈ ls ∧ (cel tb b s).2 < many := by
  have hm : s.1.toNat < tb.length := by rw [hT.len]; have := hs.m0; have := hs.mm; omega
  have g1 := List.getElem?_eq_getElem hm
  have hr := List.mem_of_getElem? g1
  have hp := (plc_get hs.pm h1 h2).2
  have hl : plc b s.2 < (tb[s.1.toNat]'hm).length := by rw [hT.row _ hr]; exact hp
  have e : cel tb b s = (tb[s.1.toNat]'hm)[plc b s.2]'hl := by
    unfold cel
    have e1 : tb.getD s.1.toNat [] = tb[s.1.toNat]'hm := by rw [List.getD_eq_getElem?_getD, g1]; rfl
    rw [e1, List.getD_eq_getElem?_getD, List.getElem?_eq_getElem hl]
    rfl
  have g2 : (tb[s.1.toNat]'hm)[plc b s.2]? = some (cel tb b s) := by rw [List.getElem?_eq_getElem hl, e]
  exact ⟨_, g1, g2, hT.cell _ hr _ (List.mem_of_getElem? g2)⟩
theorem nxs_ok (hT : TbOk d.st ls many tb) (h1 : 1 ≤ b) (h2 : b ≤ d.st) {s : StdM} (hs : SOk d many s) : SOk d many (nxs d tb b s) := by
  obtain ⟨row, _, _, _, h⟩ := cel_ok hT h1 h2 hs
  exact ⟨by show (0 : Int) ≤ ((cel tb b s).2 : Int); omega, by show ((cel tb b s).2 : Int) < many; omega, hs.pm.tms (mvD_pm d _)⟩
theorem sq_ok (hT : TbOk d.st ls many tb) (hm : 1 ≤ many) (h1 : 1 ≤ b) (h2 : b ≤ d.st) : ∀ i, SOk d many (sq d tb b i)
  | 0 => ⟨by show (0 : Int) ≤ 0; omega, by show (0 : Int) < many; omega, rgI_pm d.st⟩
  | i + 1 => nxs_ok hT h1 h2 (sq_ok hT hm h1 h2 i)
end
/-- the walk ends at k -/
def Stop (d : Wd) (tb : List (List (Nat × Nat))) (b : Int) (k : Nat) : Prop := (sq d tb b k).2 = rgI d.st ∨ ∃ j, j < k ∧ sq d tb b j = sq d tb b k
/-- it ends first at N -/
structure Wk (d : Wd) (tb : List (List (Nat × Nat))) (b : Int) (N : Nat) : Prop where
  n1 : 1 ≤ N
  n390 : N ≤ 390
  no : ∀ k, 1 ≤ k → k < N → ¬ Stop d tb b k
  yes : Stop d tb b N
/-- the standings, the letters -/
def prs (d : Wd) (tb : List (List (Nat × Nat))) (b : Int) (n : Nat) : List StdM := (List.range n).map (sq d tb b)
def lets (d : Wd) (tb : List (List (Nat × Nat))) (b : Int) (n : Nat) : List Nat := (List.range n).map (lt d tb b)
/-- where it comes back to: -1 is home -/
def AtW (d : Wd) (tb : List (List (Nat × Nat))) (b : Int) (N : Nat) (z : Int) : Prop := ((sq d tb b N).2 = rgI d.st ∧ z = -1) ∨ ((sq d tb b N).2 ≠ rgI d.st ∧ ∃ j, j < N ∧ sq d tb b j = sq d tb b N ∧ z = (j : Int))
theorem Wk.inj {d : Wd} {tb : List (List (Nat × Nat))} {b : Int} {N : Nat} (h : Wk d tb b N) {i j : Nat} (hi : i < N) (hj : j < N) (e : sq d tb b i = sq d tb b j) : i = j := by
  rcases Nat.lt_trichotomy i j with h1 | h1 | h1
  · exact absurd (.inr ⟨i, h1, e⟩) (h.no j (by omega) hj)
  · exact h1
  · exact absurd (.inr ⟨j, h1, e.symm⟩) (h.no i (by omega) hi)
theorem Wk.away {d : Wd} {tb : List (List (Nat × Nat))} {b : Int} {N : Nat} (h : Wk d tb b N) {i : Nat} (h1 : 1 ≤ i) (hi : i < N) : (sq d tb b i).2 ≠ rgI d.st := fun e => h.no i h1 hi (.inl e)
theorem prs_get {d : Wd} {tb : List (List (Nat × Nat))} {b : Int} {n i : Nat} (h : i < n) : (prs d tb b n)[i]? = some (sq d tb b i) := by simp [prs, h]
theorem prs_succ {d : Wd} {tb : List (List (Nat × Nat))} {b : Int} {n : Nat} : prs d tb b (n + 1) = prs d tb b n ++ [sq d tb b n] := by simp [prs, List.range_succ]
theorem lets_succ {d : Wd} {tb : List (List (Nat × Nat))} {b : Int} {n : Nat} : lets d tb b (n + 1) = lets d tb b n ++ [lt d tb b n] := by simp [lets, List.range_succ]
theorem prs_length {d : Wd} {tb : List (List (Nat × Nat))} {b : Int} {n : Nat} : (prs d tb b n).length = n := by simp [prs]
theorem lets_length {d : Wd} {tb : List (List (Nat × Nat))} {b : Int} {n : Nat} : (lets d tb b n).length = n := by simp [lets]
theorem mem_prs {d : Wd} {tb : List (List (Nat × Nat))} {b : Int} {n : Nat} {s : StdM} : s ∈ prs d tb b n ↔ ∃ i, i < n ∧ sq d tb b i = s := by simp [prs]
end L2
set_option Elab.async false
set_option linter.all false
/-! Plain mathematics: the book of a conductor. -/
namespace L2
/-- an entry: memory, place (from 0), letter, memory after -/
abbrev Ent := Nat × Nat × Nat × Nat
def cell (tb : List (List (Nat × Nat))) (m j : Nat) : Nat × Nat := (tb.getD m []).getD j (0, 0)
def entAt (tb : List (List (Nat × Nat))) (m j : Nat) : Ent := (m, j, (cell tb m j).1, (cell tb m j).2)
/-- the entries of memory m -/
def entM (tb : List (List (Nat × Nat))) (n m : Nat) : List Ent := (List.range n).map (entAt tb m)
def ents (tb : List (List (Nat × Nat))) (n many : Nat) : List Ent := (List.range many).flatMap (entM tb n)
theorem ents_succ {tb : List (List (Nat × Nat))} {n many : Nat} : ents tb n (many + 1) = ents tb n many ++ entM tb n many := by
  simp [ents, List.range_succ]
theorem entM_succ {tb : List (List (Nat × Nat))} {n m : Nat} : entM tb (n + 1) m = entM tb n m ++ [entAt tb m n] := by
  simp [entM, List.range_succ]
theorem mem_ents {tb : List (List (Nat × Nat))} {n many : Nat} {e : Ent} : e ∈ ents tb n many ↔ ∃ m j, m < many ∧ j < n ∧ e = entAt tb m j := by
  unfold ents entM
  rw [List.mem_flatMap]
  constructor
  · rintro ⟨m, hm, h⟩
    obtain ⟨j, hj, e⟩ := List.mem_map.mp h
    exact ⟨m, j, List.mem_range.mp hm, List.mem_range.mp hj, e.symm⟩
  · rintro ⟨m, j, hm, hj, e⟩
    exact ⟨m, List.mem_range.mpr hm, List.mem_map.mpr ⟨j, List.mem_range.mpr hj, e.symm⟩⟩
theorem ents_length {tb : List (List (Nat × Nat))} {n : Nat} : ∀ {many : Nat}, (ents tb n many).length = many * n
  | 0 => by simp [ents]
  | many + 1 => by rw [ents_succ, List.length_append, ents_length]; simp [entM, Nat.succ_mul]
theorem filter_entM_same {tb : List (List (Nat × Nat))} {n m : Nat} : (entM tb n m).filter (fun e => decide (e.1 = m)) = entM tb n m := by
  rw [List.filter_eq_self]
  intro e he
  obtain ⟨j, _, rfl⟩ := List.mem_map.mp he
  simp [entAt]
theorem filter_entM_other {tb : List (List (Nat × Nat))} {n m k : Nat} (h : m ≠ k) : (entM tb n m).filter (fun e => decide (e.1 = k)) = [] := by
  rw [List.filter_eq_nil_iff]
  intro e he
  obtain ⟨j, _, rfl⟩ := List.mem_map.mp he
  show ¬ (decide (m = k) = true)
  rw [decide_eq_false h]; exact Bool.false_ne_true
theorem filter_ents {tb : List (List (Nat × Nat))} {n m : Nat} : ∀ {many : Nat}, (ents tb n many).filter (fun e => decide (e.1 = m)) = if m < many then entM tb n m else []
  | 0 => by simp [ents]
  | many + 1 => by
    rw [ents_succ, List.filter_append, filter_ents]
    by_cases h : m < many
    · rw [if_pos h, if_pos (by omega), filter_entM_other (by omega), List.append_nil]
    · rw [if_neg h]
      by_cases h2 : m = many
      · subst h2
        rw [if_pos (by omega), filter_entM_same]; rfl
      · rw [if_neg (by omega), filter_entM_other (fun e => h2 e.symm)]; rfl
theorem cell_cel {tb : List (List (Nat × Nat))} {b : Int} {s : StdM} : cell tb s.1.toNat (plc b s.2) = cel tb b s := rfl
/-- where a standing leads: home is (-1, home) -/
def hm (d : Wd) (s : StdM) : StdM := if s.2 = rgI d.st then (-1, rgI d.st) else s
def nxt (d : Wd) (tb : List (List (Nat × Nat))) (b : Int) (s : StdM) : Nat × StdM := ((cel tb b s).1, hm d (nxs d tb b s))
/-- the ways from a standing -/
def wys (d : Wd) (tb : List (List (Nat × Nat))) (b : Int) (s : StdM) : List (Nat × StdM) := if s.1 < 0 then [] else [nxt d tb b s]
/-- standings of a book: also home -/
structure SKk (d : Wd) (many : Nat) (s : StdM) : Prop where
  m : s.1 = -1 ∨ (0 ≤ s.1 ∧ s.1 < many)
  pm : Pm d.st s.2
theorem SOk.k {d : Wd} {many : Nat} {s : StdM} (h : SOk d many s) : SKk d many s := ⟨.inr ⟨h.m0, h.mm⟩, h.pm⟩
theorem hm_ok {d : Wd} {many : Nat} {s : StdM} (h : SOk d many s) : SKk d many (hm d s) := by
  unfold hm
  split
  · exact ⟨.inl rfl, rgI_pm d.st⟩
  · exact h.k
/-- does the book bear the word from a standing on -/
def bearF (d : Wd) (tb : List (List (Nat × Nat))) (b : Int) : StdM → List Nat → Bool
  | _, [] => true
  | s, c :: us => match wys d tb b s with
    | [] => false
    | g :: _ => if c = g.1 then bearF d tb b g.2 us else false
theorem nxt_ok {d : Wd} {tb : List (List (Nat × Nat))} {b : Int} {many : Nat} {ls : List Nat} (hT : TbOk d.st ls many tb) (h1 : 1 ≤ b) (h2 : b ≤ d.st) {s : StdM} (hs : SOk d many s) : SKk d many (nxt d tb b s).2 := hm_ok (nxs_ok hT h1 h2 hs)
theorem wys_cases {d : Wd} {tb : List (List (Nat × Nat))} {b : Int} {many : Nat} {s : StdM} (hs : SKk d many s) : (s.1 = -1 ∧ wys d tb b s = []) ∨ (SOk d many s ∧ wys d tb b s = [nxt d tb b s]) := by
  unfold wys
  rcases hs.m with h | ⟨h1, h2⟩
  · exact .inl ⟨h, by rw [if_pos (by omega)]⟩
  · exact .inr ⟨⟨h1, h2, hs.pm⟩, by rw [if_neg (by omega)]⟩
/-- the standings that a book reaches, each with one way on -/
structure Trl (d : Wd) (tb : List (List (Nat × Nat))) (b : Int) (many : Nat) (f : Nat → StdM) (T : Nat) : Prop where
  t1 : 1 ≤ T
  t391 : T ≤ 391
  zero : f 0 = (0, rgI d.st)
  ok : ∀ k, k < T → SKk d many (f k)
  inj : ∀ i j, i < T → j < T → f i = f j → i = j
  step : ∀ k, k + 1 < T → wys d tb b (f k) = [(lt d tb b k, f (k + 1))]
  last : wys d tb b (f (T - 1)) = [] ∨ ∃ j, j < T ∧ wys d tb b (f (T - 1)) = [(lt d tb b (T - 1), f j)]
end L2
set_option Elab.async false
set_option linter.all false
/-! Plain mathematics: words along the ways. -/
namespace L2
/-- the word leads from s to t, one way at each standing -/
inductive Pth (d : Wd) (tb : List (List (Nat × Nat))) (b : Int) : StdM → List Nat → StdM → Prop
  | nil (s : StdM) : Pth d tb b s [] s
  | cons {s t u : StdM} {c : Nat} {us : List Nat} : wys d tb b s = [(c, t)] → Pth d tb b t us u → Pth d tb b s (c :: us) u
section
variable {d : Wd} {tb : List (List (Nat × Nat))} {b : Int}
theorem Pth.app {s t u : StdM} {as bs : List Nat} (h : Pth d tb b s as t) (k : Pth d tb b t bs u) : Pth d tb b s (as ++ bs) u := by
  induction h with
  | nil s => exact k
  | cons h1 _ ih => exact .cons h1 (ih k)
theorem bear_one {s t : StdM} {c o : Nat} {us : List Nat} (h : wys d tb b s = [(c, t)]) : bearF d tb b s (o :: us) = if o = c then bearF d tb b t us else false := by
  rw [bearF, h]
theorem bear_stop {s : StdM} {o : Nat} {us : List Nat} (h : wys d tb b s = []) : bearF d tb b s (o :: us) = false := by
  rw [bearF, h]
theorem Pth.bear {s t : StdM} {as rs : List Nat} (h : Pth d tb b s as t) : bearF d tb b s (as ++ rs) = bearF d tb b t rs := by
  induction h with
  | nil s => rfl
  | cons h1 _ ih =>
    rw [List.cons_append, bear_one h1, if_pos rfl]; exact ih
theorem Pth.take {s t : StdM} {as : List Nat} (h : Pth d tb b s as t) : ∀ k, ∃ u, Pth d tb b s (as.take k) u ∧ Pth d tb b u (as.drop k) t := by
  induction h with
  | nil s => intro k; exact ⟨s, by rw [List.take_nil]; exact .nil s, by rw [List.drop_nil]; exact .nil s⟩
  | cons h1 h2 ih =>
    intro k
    cases k with
    | zero => exact ⟨_, .nil _, .cons h1 h2⟩
    | succ k =>
      obtain ⟨u, h3, h4⟩ := ih k
      exact ⟨u, .cons h1 h3, h4⟩
/-- a word and its parts are borne -/
theorem Pth.yes {s t : StdM} {as : List Nat} (h : Pth d tb b s as t) (k : Nat) : bearF d tb b s (as.take k) = true := by
  obtain ⟨u, h1, _⟩ := h.take k
  have := h1.bear (rs := [])
  rw [List.append_nil] at this
  rw [this]; rfl
/-- another letter is not -/
theorem Pth.no {s t : StdM} {as : List Nat} (h : Pth d tb b s as t) {k c o : Nat} (hk : as[k]? = some c) (ho : o ≠ c) : bearF d tb b s (as.take k ++ [o]) = false := by
  obtain ⟨u, h1, h2⟩ := h.take k
  obtain ⟨hlt, e⟩ := List.getElem?_eq_some_iff.mp hk
  rw [List.drop_eq_getElem_cons hlt, e] at h2
  rw [h1.bear]
  cases h2 with
  | cons h3 _ => rw [bear_one h3, if_neg ho]
theorem Pth.stop {s t : StdM} {as : List Nat} (h : Pth d tb b s as t) (ht : wys d tb b t = []) (o : Nat) : bearF d tb b s (as ++ [o]) = false := by
  rw [h.bear, bear_stop ht]
/-- a loop, many times -/
theorem Pth.rep {t : StdM} {bs : List Nat} (h : Pth d tb b t bs t) : ∀ n, Pth d tb b t ((List.replicate n bs).flatten) t
  | 0 => .nil t
  | n + 1 => by rw [List.replicate_succ, List.flatten_cons]; exact h.app (h.rep n)
end
end L2
set_option Elab.async false
set_option linter.all false
/-! Plain mathematics: a permutation of at most 8 places with a fixed one; the walk ends. -/
namespace L2
def it (f : Nat → Nat) : Nat → Nat → Nat
  | 0, i => i
  | k + 1, i => f (it f k i)
theorem it_add (f : Nat → Nat) (a b i : Nat) : it f (a + b) i = it f a (it f b i) := by
  induction a with
  | zero => rw [Nat.zero_add]; rfl
  | succ a ih => rw [Nat.succ_add]; show f (it f (a + b) i) = f (it f a (it f b i)); rw [ih]
theorem it_comm (f : Nat → Nat) (a b i : Nat) : it f a (it f b i) = it f b (it f a i) := by rw [← it_add, ← it_add, Nat.add_comm]
theorem it_mul {f : Nat → Nat} {c i : Nat} (h : it f c i = i) : ∀ k, it f (c * k) i = i
  | 0 => rfl
  | k + 1 => by rw [Nat.mul_succ, it_add, h, it_mul h k]
theorem it_mod {f : Nat → Nat} {c i : Nat} (h : it f c i = i) (m : Nat) : it f m i = it f (m % c) i := by
  have := Nat.mod_add_div m c
  rw [← this, it_add, it_mul h, this]
theorem least {p : Nat → Prop} : ∀ {m : Nat}, p m → ∃ c, c ≤ m ∧ p c ∧ ∀ c', c' < c → ¬ p c'
  | 0, h => ⟨0, Nat.le_refl _, h, fun c' z => by omega⟩
  | m + 1, h => by
    by_cases z : ∃ k, k ≤ m ∧ p k
    · obtain ⟨k, hk, hp⟩ := z
      obtain ⟨c, h1, h2, h3⟩ := least hp
      exact ⟨c, by omega, h2, h3⟩
    · exact ⟨m + 1, Nat.le_refl _, h, fun c' hc hp => z ⟨c', by omega, hp⟩⟩
termination_by m => m
section
variable {n : Nat} {f : Nat → Nat} (hf : ∀ i, i < n → f i < n) (inj : ∀ i j, i < n → j < n → f i = f j → i = j)
include hf in
theorem it_lt : ∀ k i, i < n → it f k i < n
  | 0, i, h => h
  | k + 1, i, h => hf _ (it_lt k i h)
include hf inj in
theorem it_inj : ∀ k i j, i < n → j < n → it f k i = it f k j → i = j
  | 0, i, j, _, _, e => e
  | k + 1, i, j, hi, hj, e => it_inj k i j hi hj (inj _ _ (it_lt hf k i hi) (it_lt hf k j hj) e)
/-- the orbit -/
def orb (f : Nat → Nat) (i c : Nat) : List Nat := (List.range c).map fun k => it f k i
theorem mem_orb {i c x : Nat} : x ∈ orb f i c ↔ ∃ k, k < c ∧ it f k i = x := by simp [orb]
include hf inj in
theorem orb_nodup {i c : Nat} (hi : i < n) (h : ∀ c', 1 ≤ c' → c' < c → it f c' i ≠ i) : (orb f i c).Nodup := by
  unfold orb
  rw [List.Nodup, List.pairwise_map]
  refine List.Pairwise.imp_of_mem ?_ (List.pairwise_lt_range)
  intro u v hu hv huv e
  have hu := List.mem_range.mp hu
  have hv := List.mem_range.mp hv
  have e2 : it f u (it f (v - u) i) = it f u i := by rw [← it_add, show u + (v - u) = v by omega]; exact e.symm
  exact h (v - u) (by omega) (by omega) (it_inj hf inj u _ _ (it_lt hf _ _ hi) hi e2)
include hf inj in
theorem orb_fix {a i c : Nat} (ha : a < n) (hfa : f a = a) (hi : i < n) (hne : i ≠ a) : a ∉ orb f i c := by
  intro hm
  obtain ⟨k, _, e⟩ := mem_orb.mp hm
  have hka : ∀ k, it f k a = a := fun k => by induction k with
    | zero => rfl
    | succ k ih => show f (it f k a) = a; rw [ih, hfa]
  exact hne (it_inj hf inj k i a hi ha (by rw [e, hka]))
include hf inj in
theorem ret {a : Nat} (hn : n ≤ 8) (ha : a < n) (hfa : f a = a) {i : Nat} (hi : i < n) (hne : i ≠ a) : ∃ c, 1 ≤ c ∧ c ≤ 7 ∧ it f c i = i ∧ ∀ c', 1 ≤ c' → c' < c → it f c' i ≠ i := by
  by_cases h : ∃ c, 1 ≤ c ∧ c ≤ 7 ∧ it f c i = i
  · obtain ⟨c, h1, h2, h3⟩ := h
    obtain ⟨c0, g1, ⟨g2, g3⟩, g4⟩ := least (p := fun c => 1 ≤ c ∧ it f c i = i) (m := c) ⟨h1, h3⟩
    exact ⟨c0, g2, by omega, g3, fun c' k1 k2 k3 => g4 c' k2 ⟨k1, k3⟩⟩
  · exfalso
    have h1 := orb_nodup hf inj (c := 8) hi (fun c' k1 k2 k3 => h ⟨c', k1, by omega, k3⟩)
    have h2 : (a :: orb f i 8).length ≤ (List.range n).length := nodup_sub (List.nodup_cons.mpr ⟨orb_fix hf inj ha hfa hi hne, h1⟩) fun x hx => by
      rcases List.mem_cons.mp hx with rfl | hx
      · exact List.mem_range.mpr ha
      · obtain ⟨k, _, rfl⟩ := mem_orb.mp hx
        exact List.mem_range.mpr (it_lt hf _ _ hi)
    simp [orb] at h2
    omega
include hf inj in
theorem two {a : Nat} (hn : n ≤ 8) (ha : a < n) (hfa : f a = a) {x y cx cy : Nat} (hx : x < n) (hy : y < n) (nx : x ≠ a) (ny : y ≠ a) (hcx : it f cx x = x) (hcy : it f cy y = y) (h1 : 1 ≤ cx)
    (mx : ∀ c', 1 ≤ c' → c' < cx → it f c' x ≠ x) (my : ∀ c', 1 ≤ c' → c' < cy → it f c' y ≠ y) (hno : ∀ k, it f k x ≠ y) : 1 + cx + cy ≤ 8 := by
  have h2 : (a :: (orb f x cx ++ orb f y cy)).length ≤ (List.range n).length := nodup_sub (List.nodup_cons.mpr ⟨fun hm => by
      rcases List.mem_append.mp hm with h | h
      · exact orb_fix hf inj ha hfa hx nx h
      · exact orb_fix hf inj ha hfa hy ny h, List.nodup_append.mpr ⟨orb_nodup hf inj hx mx, orb_nodup hf inj hy my, fun u hu v hv e => by
      obtain ⟨k, hk, rfl⟩ := mem_orb.mp hu
      obtain ⟨m, hm, rfl⟩ := mem_orb.mp hv
      refine hno (cy - m + k) ?_
      rw [it_add, e, ← it_add, show cy - m + m = cy by omega, hcy]⟩⟩) fun z hz => by
    rcases List.mem_cons.mp hz with rfl | hz
    · exact List.mem_range.mpr ha
    · rcases List.mem_append.mp hz with h | h
      · obtain ⟨k, _, rfl⟩ := mem_orb.mp h
        exact List.mem_range.mpr (it_lt hf _ _ hx)
      · obtain ⟨k, _, rfl⟩ := mem_orb.mp h
        exact List.mem_range.mpr (it_lt hf _ _ hy)
  simp [orb] at h2
  omega
include hf inj in
/-- one of the powers 7, 10, 12 is the identity -/
theorem order {a : Nat} (hn : n ≤ 8) (ha : a < n) (hfa : f a = a) : ∃ k, 1 ≤ k ∧ k ≤ 12 ∧ ∀ i, i < n → it f k i = i := by
  have hfix : ∀ k, it f k a = a := fun k => by induction k with
    | zero => rfl
    | succ k ih => show f (it f k a) = a; rw [ih, hfa]
  by_cases h : ∀ i, i < n → i ≠ a → it f 12 i = i
  · exact ⟨12, by omega, by omega, fun i hi => by by_cases e : i = a; · rw [e]; exact hfix 12
                                                  · exact h i hi e⟩
  · have ⟨x, hx⟩ := Classical.not_forall.mp h
    have ⟨hxn, hx⟩ := Classical.not_imp.mp hx
    have ⟨nx, hx⟩ := Classical.not_imp.mp hx
    obtain ⟨c, c1, c7, hc, mc⟩ := ret hf inj hn ha hfa hxn nx
    have hdv : ∀ m, c * m = 12 → False := fun m e => hx (by rw [← e]; exact it_mul hc m)
    have hc57 : c = 5 ∨ c = 7 := by
      rcases (show c = 1 ∨ c = 2 ∨ c = 3 ∨ c = 4 ∨ c = 5 ∨ c = 6 ∨ c = 7 by omega) with e | e | e | e | e | e | e
      · exact (hdv 12 (by rw [e])).elim
      · exact (hdv 6 (by rw [e])).elim
      · exact (hdv 4 (by rw [e])).elim
      · exact (hdv 3 (by rw [e])).elim
      · exact .inl e
      · exact (hdv 2 (by rw [e])).elim
      · exact .inr e
    have other : ∀ y, y < n → y ≠ a → it f c y = y ∨ (c = 5 ∧ (it f 1 y = y ∨ it f 2 y = y)) := fun y hy ny => by
      by_cases hm : ∃ k, it f k x = y
      · obtain ⟨k, rfl⟩ := hm
        exact .inl (by rw [it_comm, hc])
      · obtain ⟨cy, k1, k7, hcy, my⟩ := ret hf inj hn ha hfa hy ny
        have := two hf inj hn ha hfa hxn hy nx ny hc hcy c1 mc my (fun k e => hm ⟨k, e⟩)
        refine .inr ?_
        rcases hc57 with e | e
        · refine ⟨e, ?_⟩
          rcases (show cy = 1 ∨ cy = 2 by omega) with e2 | e2
          · rw [e2] at hcy; exact .inl hcy
          · rw [e2] at hcy; exact .inr hcy
        · omega
    rcases hc57 with e | e
    · refine ⟨10, by omega, by omega, fun i hi => ?_⟩
      by_cases ea : i = a
      · rw [ea]; exact hfix 10
      · rcases other i hi ea with h | ⟨_, h | h⟩
        · rw [e] at h; exact it_mul h 2
        · exact it_mul h 10
        · exact it_mul h 5
    · refine ⟨7, by omega, by omega, fun i hi => ?_⟩
      by_cases ea : i = a
      · rw [ea]; exact hfix 7
      · rcases other i hi ea with h | ⟨h5, _⟩
        · rw [e] at h; exact h
        · omega
end
end L2
set_option Elab.async false
set_option linter.all false
/-! Plain mathematics: a conductor's walk ends within 390 leads. -/
namespace L2
def mf (m : List Int) (j : Nat) : Nat := (m.getD j 0 - 1).toNat
theorem mf_lt {n : Nat} {m : List Int} (h : Pm n m) {j : Nat} (hj : j < n) : mf m j < n := by
  have hg := getD_some (r := m) (j := j) (by rw [h.1]; exact hj)
  have := h.2.1 _ (List.mem_of_getElem? hg)
  unfold mf; omega
theorem mf_inj {n : Nat} {m : List Int} (h : Pm n m) {i j : Nat} (hi : i < n) (hj : j < n) (e : mf m i = mf m j) : i = j := by
  have g1 := getD_some (r := m) (j := i) (by rw [h.1]; exact hi)
  have g2 := getD_some (r := m) (j := j) (by rw [h.1]; exact hj)
  have b1 := h.2.1 _ (List.mem_of_getElem? g1)
  have b2 := h.2.1 _ (List.mem_of_getElem? g2)
  have e2 : m.getD i 0 = m.getD j 0 := by unfold mf at e; omega
  rw [e2, ← g2] at g1
  exact (List.getElem?_inj (by rw [h.1]; exact hi) h.2.2).mp g1
theorem tms_at {n : Nat} {r m : List Int} (h : Pm n m) {j : Nat} (hj : j < n) : (tms r m).getD j 0 = r.getD (mf m j) 0 := by
  have hg := getD_some (r := m) (j := j) (by rw [h.1]; exact hj)
  unfold tms
  rw [List.getD_eq_getElem?_getD, List.getElem?_map, hg]; rfl
theorem plc_uni {n : Nat} {r : List Int} (h : Pm n r) {b : Int} (h1 : 1 ≤ b) (h2 : b ≤ n) {j : Nat} (hj : j < n) (e : r.getD j 0 = b) : j = plc b r := by
  have g1 := getD_some (r := r) (j := j) (by rw [h.1]; exact hj)
  rw [e] at g1
  have g2 := (plc_get h h1 h2).1
  rw [← g2] at g1
  exact (List.getElem?_inj (by rw [h.1]; exact hj) h.2.2).mp g1
theorem row_ext {n : Nat} {r s : List Int} (hr : Pm n r) (hs : Pm n s) (e : ∀ j, j < n → r.getD j 0 = s.getD j 0) : r = s := by
  apply List.ext_getElem?
  intro j
  by_cases hj : j < n
  · rw [getD_some (by rw [hr.1]; exact hj), getD_some (by rw [hs.1]; exact hj), e j hj]
  · rw [List.getElem?_eq_none (by rw [hr.1]; omega), List.getElem?_eq_none (by rw [hs.1]; omega)]
section
variable {d : Wd} {tb : List (List (Nat × Nat))} {b : Int} {many : Nat} {ls : List Nat} (hT : TbOk d.st ls many tb) (hm : 1 ≤ many) (h1 : 1 ≤ b) (h2 : b ≤ d.st)
/-- the two places of the walk are alike: memory, and the bell's place -/
def Alk (d : Wd) (tb : List (List (Nat × Nat))) (b : Int) (i j : Nat) : Prop := (sq d tb b i).1 = (sq d tb b j).1 ∧ plc b (sq d tb b i).2 = plc b (sq d tb b j).2
theorem Alk.same {i j : Nat} (h : Alk d tb b i j) : cel tb b (sq d tb b i) = cel tb b (sq d tb b j) := by unfold cel; rw [h.1, h.2]
include hT hm h1 h2 in
theorem row_step (i : Nat) {j : Nat} (hj : j < d.st) : (sq d tb b (i + 1)).2.getD j 0 = (sq d tb b i).2.getD (mf (mvD d (lt d tb b i)) j) 0 := tms_at (mvD_pm d _) hj
include hT hm h1 h2 in
theorem plc_step (i : Nat) : mf (mvD d (lt d tb b i)) (plc b (sq d tb b (i + 1)).2) = plc b (sq d tb b i).2 := by
  have hs := sq_ok (d := d) hT hm h1 h2 i
  have hs1 := sq_ok (d := d) hT hm h1 h2 (i + 1)
  obtain ⟨g1, g2⟩ := plc_get hs1.pm h1 h2
  refine plc_uni hs.pm h1 h2 (mf_lt (mvD_pm d _) g2) ?_
  rw [← row_step hT hm h1 h2 i g2]
  exact getD_of g1
include hT hm h1 h2 in
theorem Alk.step {i j : Nat} (h : Alk d tb b i j) : Alk d tb b (i + 1) (j + 1) := by
  have hc := h.same
  refine ⟨?_, ?_⟩
  · show ((cel tb b (sq d tb b i)).2 : Int) = ((cel tb b (sq d tb b j)).2 : Int); rw [hc]
  · have e1 := plc_step hT hm h1 h2 i
    have e2 := plc_step hT hm h1 h2 j
    have hlt : lt d tb b i = lt d tb b j := by unfold lt; rw [hc]
    rw [hlt, h.2, ← e2] at e1
    exact mf_inj (mvD_pm d _) (plc_get (sq_ok (d := d) hT hm h1 h2 (i + 1)).pm h1 h2).2 (plc_get (sq_ok (d := d) hT hm h1 h2 (j + 1)).pm h1 h2).2 e1
include hT hm h1 h2 in
theorem Alk.steps {i j : Nat} (h : Alk d tb b i j) : ∀ t, Alk d tb b (i + t) (j + t)
  | 0 => h
  | t + 1 => Alk.step hT hm h1 h2 (Alk.steps h t)
/-- where place j comes from, t leads back, from i on -/
def fr (d : Wd) (tb : List (List (Nat × Nat))) (b : Int) (i : Nat) : Nat → Nat → Nat
  | 0, j => j
  | t + 1, j => fr d tb b i t (mf (mvD d (lt d tb b (i + t))) j)
theorem fr_lt {i : Nat} : ∀ t j, j < d.st → fr d tb b i t j < d.st
  | 0, j, h => h
  | t + 1, j, h => fr_lt t _ (mf_lt (mvD_pm d _) h)
theorem fr_inj {i : Nat} : ∀ t j k, j < d.st → k < d.st → fr d tb b i t j = fr d tb b i t k → j = k
  | 0, j, k, _, _, e => e
  | t + 1, j, k, hj, hk, e => mf_inj (mvD_pm d _) hj hk (fr_inj t _ _ (mf_lt (mvD_pm d _) hj) (mf_lt (mvD_pm d _) hk) e)
include hT hm h1 h2 in
theorem fr_row {i i' : Nat} (h : Alk d tb b i i') : ∀ t j, j < d.st → (sq d tb b (i' + t)).2.getD j 0 = (sq d tb b i').2.getD (fr d tb b i t j) 0
  | 0, j, hj => rfl
  | t + 1, j, hj => by
    have hl : lt d tb b (i' + t) = lt d tb b (i + t) := by unfold lt; rw [(h.steps hT hm h1 h2 t).same]
    show (sq d tb b (i' + t + 1)).2.getD j 0 = _
    rw [row_step hT hm h1 h2 (i' + t) hj, hl]
    exact fr_row h t _ (mf_lt (mvD_pm d _) hj)
include hT hm h1 h2 in
theorem comes_back (h8 : d.st ≤ 8) {i p : Nat} (hp : 1 ≤ p) (h : Alk d tb b i (i + p)) : ∃ k, 1 ≤ k ∧ k ≤ 12 ∧ sq d tb b (i + p * k) = sq d tb b i := by
  have hal : ∀ k, Alk d tb b i (i + p * k) := fun k => by
    induction k with
    | zero => exact ⟨rfl, rfl⟩
    | succ k ih =>
      have hk := ih.steps hT hm h1 h2 p
      rw [show i + p * k + p = i + p * (k + 1) by rw [Nat.mul_succ]; omega] at hk
      exact ⟨h.1.trans hk.1, h.2.trans hk.2⟩
  have hi := sq_ok (d := d) hT hm h1 h2 i
  obtain ⟨a1, a2⟩ := plc_get hi.pm h1 h2
  have hrow : ∀ k j, j < d.st → (sq d tb b (i + p * k)).2.getD j 0 = (sq d tb b i).2.getD (it (fr d tb b i p) k j) 0 := fun k => by
    induction k with
    | zero => intro j _; rfl
    | succ k ih =>
      intro j hj
      have e := fr_row hT hm h1 h2 (hal k) p j hj
      rw [show i + p * k + p = i + p * (k + 1) by rw [Nat.mul_succ]; omega] at e
      rw [e, ih _ (fr_lt p j hj)]
      show (sq d tb b i).2.getD (it _ k (it _ 1 j)) 0 = (sq d tb b i).2.getD (it _ (k + 1) j) 0
      rw [← it_add]
  have hfa : fr d tb b i p (plc b (sq d tb b i).2) = plc b (sq d tb b i).2 := by
    refine plc_uni hi.pm h1 h2 (fr_lt p _ a2) ?_
    have := fr_row hT hm h1 h2 (hal 0) p _ a2
    rw [Nat.mul_zero, Nat.add_zero] at this
    rw [← this, h.2]
    exact getD_of (plc_get (sq_ok (d := d) hT hm h1 h2 (i + p)).pm h1 h2).1
  obtain ⟨k, k1, k12, hk⟩ := order (n := d.st) (f := fr d tb b i p) (fun j hj => fr_lt p j hj) (fun j k hj hk e => fr_inj p j k hj hk e) h8 a2 hfa
  refine ⟨k, k1, k12, ?_⟩
  have hs := sq_ok (d := d) hT hm h1 h2 (i + p * k)
  have er : (sq d tb b (i + p * k)).2 = (sq d tb b i).2 := row_ext hs.pm hi.pm fun j hj => by rw [hrow k j hj, hk j hj]
  exact Prod.ext (hal k).1.symm er
include hT hm h1 h2 in
theorem pigeon (h8 : d.st ≤ 8) (hm4 : many ≤ 4) : ∃ i p, 1 ≤ p ∧ i + p ≤ 32 ∧ Alk d tb b i (i + p) := by
  by_cases h : ∃ i p, 1 ≤ p ∧ i + p ≤ 32 ∧ Alk d tb b i (i + p)
  · exact h
  · exfalso
    have hnd : ((List.range 33).map fun k => (sq d tb b k).1.toNat * 8 + plc b (sq d tb b k).2).Nodup := by
      rw [List.Nodup, List.pairwise_map]
      refine List.Pairwise.imp_of_mem ?_ (List.pairwise_lt_range)
      intro u v hu hv huv e
      have hu := List.mem_range.mp hu
      have hv := List.mem_range.mp hv
      have s1 := sq_ok (d := d) hT hm h1 h2 u
      have s2 := sq_ok (d := d) hT hm h1 h2 v
      have p1 := (plc_get s1.pm h1 h2).2
      have p2 := (plc_get s2.pm h1 h2).2
      have m1 := s1.m0
      have m2 := s2.m0
      refine h ⟨u, v - u, by omega, by omega, ?_⟩
      rw [show u + (v - u) = v by omega]
      exact ⟨by omega, by omega⟩
    have hl := nodup_sub hnd (us := List.range 32) fun x hx => by
      obtain ⟨k, _, rfl⟩ := List.mem_map.mp hx
      have s1 := sq_ok (d := d) hT hm h1 h2 k
      have p1 := (plc_get s1.pm h1 h2).2
      have m1 := s1.m0
      have m2 := s1.mm
      exact List.mem_range.mpr (by omega)
    simp at hl
include hT hm h1 h2 in
theorem wk_ex (h8 : d.st ≤ 8) (hm4 : many ≤ 4) : ∃ N, Wk d tb b N := by
  obtain ⟨i, p, hp, hip, hal⟩ := pigeon hT hm h1 h2 h8 hm4
  obtain ⟨k, k1, k12, hk⟩ := comes_back hT hm h1 h2 h8 hp hal
  have hpk : 1 ≤ p * k := Nat.mul_pos hp k1
  have hle : p * k ≤ p * 12 := Nat.mul_le_mul (Nat.le_refl p) k12
  obtain ⟨N, n1, ⟨n2, n3⟩, n4⟩ := least (p := fun N => 1 ≤ N ∧ Stop d tb b N) (m := i + p * k) ⟨by omega, .inr ⟨i, by omega, hk.symm⟩⟩
  exact ⟨N, n2, by omega, fun k h1 h2 h3 => n4 k h2 ⟨h1, h3⟩, n3⟩
end
end L2
set_option Elab.async false
set_option linter.all false
/-! Plain mathematics: the trail of a walk. -/
namespace L2
/-- the trail of a round: home last -/
def trF (d : Wd) (tb : List (List (Nat × Nat))) (b : Int) (N k : Nat) : StdM := if k = N then (-1, rgI d.st) else sq d tb b k
section
variable {d : Wd} {tb : List (List (Nat × Nat))} {b : Int} {many : Nat} {ls : List Nat} {N : Nat}
theorem wys_sq (hT : TbOk d.st ls many tb) (hm1 : 1 ≤ many) (h1 : 1 ≤ b) (h2 : b ≤ d.st) (k : Nat) : wys d tb b (sq d tb b k) = [(lt d tb b k, hm d (sq d tb b (k + 1)))] := by
  have := (sq_ok (d := d) hT hm1 h1 h2 k).m0
  unfold wys
  rw [if_neg (by omega)]
  rfl
theorem hm_away {s : StdM} (h : s.2 ≠ rgI d.st) : hm d s = s := by unfold hm; rw [if_neg h]
theorem hm_home {s : StdM} (h : s.2 = rgI d.st) : hm d s = (-1, rgI d.st) := by unfold hm; rw [if_pos h]
theorem trl_home (hT : TbOk d.st ls many tb) (hm1 : 1 ≤ many) (h1 : 1 ≤ b) (h2 : b ≤ d.st) (hN : Wk d tb b N) (hh : (sq d tb b N).2 = rgI d.st) : Trl d tb b many (trF d tb b N) (N + 1) ∧ wys d tb b (trF d tb b N N) = [] ∧ trF d tb b N N = (-1, rgI d.st) := by
  have n1 := hN.n1
  have n390 := hN.n390
  have hS := fun i => sq_ok (d := d) hT hm1 h1 h2 i
  have eN : trF d tb b N N = (-1, rgI d.st) := if_pos rfl
  have ek : ∀ k, k ≠ N → trF d tb b N k = sq d tb b k := fun k hk => if_neg hk
  have hw : wys d tb b (trF d tb b N N) = [] := by rw [eN]; unfold wys; rw [if_pos (show (-1 : Int) < 0 by decide)]
  refine ⟨⟨by omega, by omega, ?_, fun k hk => ?_, fun i j hi hj e => ?_, fun k hk => ?_, .inl hw⟩, hw, eN⟩
  · rw [ek 0 (by omega)]; rfl
  · by_cases e : k = N
    · rw [e, eN]; exact ⟨.inl rfl, rgI_pm d.st⟩
    · rw [ek k e]; exact (hS k).k
  · by_cases e1 : i = N
    · by_cases e2 : j = N
      · rw [e1, e2]
      · rw [e1, eN, ek j e2] at e
        have := (hS j).m0
        rw [← e] at this
        have this : (0 : Int) ≤ -1 := this
        omega
    · by_cases e2 : j = N
      · rw [e2, eN, ek i e1] at e
        have := (hS i).m0
        rw [e] at this
        have this : (0 : Int) ≤ -1 := this
        omega
      · rw [ek i e1, ek j e2] at e
        exact hN.inj (by omega) (by omega) e
  · rw [ek k (by omega), wys_sq (d := d) hT hm1 h1 h2 k]
    by_cases e : k + 1 = N
    · rw [e, eN, hm_home hh]
    · rw [ek _ e, hm_away (hN.away (i := k + 1) (by omega) (by omega))]
theorem trl_loop (hT : TbOk d.st ls many tb) (hm1 : 1 ≤ many) (h1 : 1 ≤ b) (h2 : b ≤ d.st) (hN : Wk d tb b N) (hh : (sq d tb b N).2 ≠ rgI d.st) {j : Nat} (hj : j < N) (e : sq d tb b j = sq d tb b N) : Trl d tb b many (sq d tb b) N ∧ wys d tb b (sq d tb b (N - 1)) = [(lt d tb b (N - 1), sq d tb b j)] := by
  have n1 := hN.n1
  have n390 := hN.n390
  have hS := fun i => sq_ok (d := d) hT hm1 h1 h2 i
  have hw : wys d tb b (sq d tb b (N - 1)) = [(lt d tb b (N - 1), sq d tb b j)] := by
    rw [wys_sq hT hm1 h1 h2, show N - 1 + 1 = N by omega, hm_away hh, e]
  refine ⟨⟨n1, by omega, rfl, fun k hk => (hS k).k, fun i j hi hj e => hN.inj hi hj e, fun k hk => ?_, .inr ⟨j, hj, hw⟩⟩, hw⟩
  rw [wys_sq (d := d) hT hm1 h1 h2 k, hm_away (hN.away (i := k + 1) (by omega) hk)]
theorem Pth.det {s t : StdM} {as : List Nat} (h : Pth d tb b s as t) : ∀ {u : StdM}, Pth d tb b s as u → t = u := by
  induction h with
  | nil s => intro u k; cases k; rfl
  | cons h1 _ ih =>
    intro u k
    cases k with
    | cons h3 h4 =>
      rw [h1] at h3
      injection h3 with h3
      injection h3 with _ h3
      subst h3
      exact ih h4
theorem Trl.pth {f : Nat → StdM} {T : Nat} (h : Trl d tb b many f T) : ∀ k, k < T → Pth d tb b (0, rgI d.st) (lets d tb b k) (f k)
  | 0, _ => by rw [← h.zero]; exact .nil _
  | k + 1, hk => by rw [lets_succ]; exact (h.pth k (by omega)).app (.cons (h.step k hk) (.nil _))
theorem lets_take {k n : Nat} (h : k ≤ n) : (lets d tb b n).take k = lets d tb b k := by
  unfold lets
  rw [← List.map_take, List.take_range, Nat.min_eq_left h]
theorem pth_home (hT : TbOk d.st ls many tb) (hm1 : 1 ≤ many) (h1 : 1 ≤ b) (h2 : b ≤ d.st) (hN : Wk d tb b N) (hh : (sq d tb b N).2 = rgI d.st) : ∃ t, Pth d tb b (0, rgI d.st) (lets d tb b N) t ∧ wys d tb b t = [] := by
  obtain ⟨g1, g2, g3⟩ := trl_home hT hm1 h1 h2 hN hh
  exact ⟨_, g1.pth N (by omega), g2⟩
theorem pth_loop (hT : TbOk d.st ls many tb) (hm1 : 1 ≤ many) (h1 : 1 ≤ b) (h2 : b ≤ d.st) (hN : Wk d tb b N) (hh : (sq d tb b N).2 ≠ rgI d.st) {j : Nat} (hj : j < N) (e : sq d tb b j = sq d tb b N) : ∃ t, Pth d tb b (0, rgI d.st) (lets d tb b N) t ∧ Pth d tb b t ((lets d tb b N).drop j) t := by
  have n1 := hN.n1
  obtain ⟨g1, g2⟩ := trl_loop hT hm1 h1 h2 hN hh hj e
  have p1 := (g1.pth (N - 1) (by omega)).app (.cons g2 (.nil _))
  rw [← lets_succ, show N - 1 + 1 = N by omega] at p1
  obtain ⟨u, q1, q2⟩ := p1.take j
  rw [lets_take (by omega)] at q1
  have := (g1.pth j hj).det q1
  subst this
  exact ⟨_, p1, q2⟩
end
end L2
set_option Elab.async false
set_option linter.all false
set_option maxRecDepth 100000
set_option maxHeartbeats 4000000
namespace L2
open PySem PySem.Spec PyProof.Rows Evl
section
variable {P : Program} {w : World} {K : PySem.W.Frag} {mg : Str → Option Value} {base : Heap} {f : Addr} {fd : FuncData} {cl : Cls6}
abbrev s_is_integer : Stmt := top 21
abbrev N_is_integer : List Str := ["thing", "low", "high"]
theorem sc_is_integer : FnScope N_is_integer ["thing", "low", "high"] (defScope s_is_integer) := ⟨rfl, rfl, rfl, by decide +kernel, rfl, by decide +kernel, by decide +kernel⟩
def sp_is_integer : Sp := fun vs H Q _ => ∃ i lo hi : Int, vs = [.int i, .int lo, .int hi] ∧ Q (.bl (decide (lo ≤ i) && decide (i ≤ hi))) H
theorem ok_is_integer  (T : Txt K mg cl) (F : FnP K "is_integer" "is_integer" s_is_integer [] f fd)  : FnOk P w K mg base CX0 1 f fd ["thing", "low", "high"] (sp_is_integer) := by
  refine F.ok sc_is_integer (fun vs H Q E h => ?_) (fun cdv A outer s H vs Q E hr h => ?_)
  · unfold sp_is_integer at h; (repeat obtain ⟨_, h⟩ := h); subst_vars; rfl
  have hu := hr.units
  refine ⟨_, PSs.nox (pss_cons (ps_if (PW.pt (pw_or (pt_val (pe_callB call_isi (by rfl) T.b_isinstance (by decide +kernel) (pa_cons (pv 0) (pa_cons (pe_bltn (v := .ty "bool") (u := .type "bool") (by rfl) T.b_bool (by decide +kernel) rfl) pa_nil)))) (pw_or1 (pt_not (pt_val (pe_callB call_isi (by rfl) T.b_isinstance (by decide +kernel) (pa_cons (pv 0) (pa_cons (pe_bltn (v := .ty "int") (u := .type "int") (by rfl) T.b_int (by decide +kernel) rfl) pa_nil)))))))) pss_never pss_nil)
      (pss_one (ps_ret (pe_chain op_le op_le (pv 1) (pv 0) (pv 2))))), ?_⟩
  obtain ⟨i, lo, hi, rfl, q⟩ := h
  refine rd_isi rfl (.base (.int _)) (kit_ty (by decide +kernel : kitB "int" "bool" = some false)) (iF (rd_isi rfl (.base (.int _)) (kit_ty (by decide +kernel : kitB "int" "int" = some true)) (iF ?_)))
  refine ⟨_, rfl, _, rfl, _, _, rfl, rfl, _, rfl, iB (b := decide (lo ≤ i)) rfl (fun e => ?_) (fun e => ?_)⟩
  · rw [e] at q
    exact ⟨_, rfl, _, _, rfl, rfl, q⟩
  · rw [e] at q
    exact q
abbrev s_flat : Stmt := top 22
abbrev N_flat : List Str := ["thing"]
theorem sc_flat : FnScope N_flat ["thing"] (defScope s_flat) := ⟨rfl, rfl, rfl, by decide +kernel, rfl, by decide +kernel, by decide +kernel⟩
def sp_flat (K : PySem.W.Frag) : Sp := fun vs H Q _ => ∃ (x : V) (ds : List PyData), vs = [x] ∧ Dp K H x (.tuple ds) ∧ ∀ H', Ex H H' → Q x H'
theorem ok_flat  (T : Txt K mg cl) (F : FnP K "flat" "flat" s_flat [] f fd)  : FnOk P w K mg base CX0 1 f fd ["thing"] ((sp_flat K)) := by
  refine F.ok sc_flat (fun vs H Q E h => ?_) (fun cdv A outer s H vs Q E hr h => ?_)
  · unfold sp_flat at h; (repeat obtain ⟨_, h⟩ := h); subst_vars; rfl
  have hu := hr.units
  refine ⟨_, PSs.nox (pss_cons (ps_if (pt_val (pe_callB call_isiT (by rfl) T.b_isinstance (by decide +kernel) (pa_cons (pv 0) (pa_cons (pe_tup (pa_cons (pe_bltn (v := .ty "list") (u := .type "list") (by rfl) T.b_list (by decide +kernel) rfl) (pa_cons (pe_bltn (v := .ty "tuple") (u := .type "tuple") (by rfl) T.b_tuple (by decide +kernel) rfl) pa_nil))) pa_nil)))) (pss_one (ps_ret (pe_callTy (call_tupN (K := K)) (by rfl) T.b_tuple (by decide +kernel) (pa_cons (pv 0) pa_nil)))) pss_nil)
      (pss_one (ps_ret (pv 0)))), ?_⟩
  obtain ⟨x, ds, rfl, hx, q⟩ := h
  refine rd_isiT rfl (fun H' e => (hx.ex e).ty) (kitAny_cons (b := false) (kit_ty (by decide +kernel)) (fun _ => kitAny_cons (b := true) (kit_ty (by decide +kernel)) (fun z => by cases z) (fun _ => rfl)) (fun _ => rfl)) fun H' e => iT ?_
  obtain ⟨a, xs, rfl, h1, h2⟩ := (hx.ex e).tupI
  exact ⟨_, rfl, tup_t h1 (q H' e)⟩
abbrev s_is_letter : Stmt := top 24
abbrev N_is_letter : List Str := ["thing"]
theorem sc_is_letter : FnScope N_is_letter ["thing"] (defScope s_is_letter) := ⟨rfl, rfl, rfl, by decide +kernel, rfl, by decide +kernel, by decide +kernel⟩
def sp_is_letter : Sp := fun vs H Q _ => ∃ c : Nat, vs = [.str ⟨#[c]⟩] ∧ 97 ≤ c ∧ c ≤ 122 ∧ Q (.bl true) H
theorem occ_letter {c : Nat} (h1 : 97 ≤ c) (h2 : c ≤ 122) : (Builtin.Str.occurrences ("abcdefghijklmnopqrstuvwxyz" : Str) ⟨#[c]⟩ 0 ("abcdefghijklmnopqrstuvwxyz" : Str).length 1).isEmpty = false := by
  have key : ∀ k : Fin 26, (Builtin.Str.occurrences ("abcdefghijklmnopqrstuvwxyz" : Str) ⟨#[97 + k.1]⟩ 0 ("abcdefghijklmnopqrstuvwxyz" : Str).length 1).isEmpty = false := by decide +kernel
  have e := key ⟨c - 97, by omega⟩
  have e2 : 97 + (c - 97) = c := by omega
  rw [e2] at e
  exact e
theorem ok_is_letter  (T : Txt K mg cl) (F : FnP K "is_letter" "is_letter" s_is_letter [] f fd)  : FnOk P w K mg base CX0 1 f fd ["thing"] (sp_is_letter) := by
  refine F.ok sc_is_letter (fun vs H Q E h => ?_) (fun cdv A outer s H vs Q E hr h => ?_)
  · unfold sp_is_letter at h; (repeat obtain ⟨_, h⟩ := h); subst_vars; rfl
  have hu := hr.units
  refine ⟨_, PSs.nox (pss_one (ps_ret (pe_and (pe_callB call_isi (by rfl) T.b_isinstance (by decide +kernel) (pa_cons (pv 0) (pa_cons (pe_bltn (v := .ty "str") (u := .type "str") (by rfl) T.b_str (by decide +kernel) rfl) pa_nil))) (pe_and (pe_cmpR (op_eqA (K := K) hu) (pe_callB (call_lenA (P := P) (w := w) (K := K)) (by rfl) T.b_len (by decide +kernel) (pa_cons (pv 0) pa_nil)) pe_int (nomark _)) (pe_one (pe_cmpR (op_inA (P := P) (w := w) (K := K) hu) (pv 0) (pe_gcs T.c_LETTERS) (by rfl))))))), ?_⟩
  obtain ⟨c, rfl, h1, h2, q⟩ := h
  refine rv_isi rfl (.base (.str _)) (kit_ty (by decide +kernel : kitB "str" "str" = some true)) ⟨true, rfl, iT ?_⟩
  refine ⟨_, rfl, len_s (by show 1 ≤ sizeLine; decide) (eq_i ⟨_, rfl, iT ?_⟩)⟩
  exact ⟨_, rfl, in_s (b := true) (occ_letter h1 h2) q⟩
abbrev s_is_rising : Stmt := top 25
abbrev N_is_rising : List Str := ["thing", "low", "high", "last", "number"]
theorem sc_is_rising : FnScope N_is_rising ["thing", "low", "high"] (defScope s_is_rising) := ⟨rfl, rfl, rfl, by decide +kernel, rfl, by decide +kernel, by decide +kernel⟩
def sp_is_rising (K : PySem.W.Frag) : Sp := fun vs H Q _ => ∃ (x : V) (r : List Int) (lo hi : Int), vs = [x, .int lo, .int hi] ∧ Dp K H x (dRow r) ∧ RisI lo hi r ∧ Q (.bl true) H
theorem ok_is_rising  (T : Txt K mg cl) (F : FnP K "is_rising" "is_rising" s_is_rising [] f fd) (G_is_integer : GDef P w K mg base "is_integer" 1 ["thing", "low", "high"] [] (sp_is_integer)) : FnOk P w K mg base CX0 2 f fd ["thing", "low", "high"] ((sp_is_rising K)) := by
  refine F.ok sc_is_rising (fun vs H Q E h => ?_) (fun cdv A outer s H vs Q E hr h => ?_)
  · unfold sp_is_rising at h; (repeat obtain ⟨_, h⟩ := h); subst_vars; rfl
  have hu := hr.units
  refine ⟨_, PSs.nox (pss_cons (ps_if (pt_not (pt_val (pe_callB call_isi (by rfl) T.b_isinstance (by decide +kernel) (pa_cons (pv 0) (pa_cons (pe_bltn (v := .ty "tuple") (u := .type "tuple") (by rfl) T.b_tuple (by decide +kernel) rfl) pa_nil))))) pss_never pss_nil)
      (pss_cons (ps_set (i := 3) sc_is_rising.nd rfl (Or.inl rfl) pe_non)
      (pss_cons (ps_for PassesOwn.never rfl (pi_tup (pv 0)) (pg_name (i := 4) sc_is_rising.nd rfl (Or.inl rfl)) (pss_cons (ps_if (pt_not (pt_val (pe_g G_is_integer hr (pa_cons (pv 4) (pa_cons (pv 1) (pa_cons (pv 2) pa_nil)))))) pss_never pss_nil)
      (pss_cons (ps_if (PW.pt (pw_and (pt_cmpR op_isNotC (pv 3) pe_non (nomark _)) (pw_and1 (pt_cmpR op_le (pv 4) (pv 3) (nomark _))))) pss_never pss_nil)
      (pss_one (ps_set (i := 3) sc_is_rising.nd rfl (Or.inl rfl) (pv 4))))))
      (pss_one (ps_ret pe_bl))))), ?_⟩
  obtain ⟨x, r, lo, hi, rfl, hx, ⟨hr1, hr2⟩, q⟩ := h
  obtain ⟨a, rfl, ha⟩ := hx.row
  refine rd_isi rfl ha.ty (kit_ty (by decide +kernel : kitB "tuple" "tuple" = some true)) (iF ?_)
  refine ⟨_, rfl, a, rfl, ⟨_, ha⟩, ?_⟩
  refine for_it (walk_tup (xs := r.map V.int)) (fun i σ H2 => H2 = H ∧ ∃ (l : V) (n : Option V), σ = [some (.ref a), some (.int lo), some (.int hi), some l, n] ∧ (l = .non ∨ ∃ z j, l = .int z ∧ j < i ∧ r[j]? = some z)) ⟨rfl, _, none, rfl, .inl rfl⟩ (fun i σ H2 _ ⟨e, _⟩ => e ▸ ha) ?_ ?_
  · rintro i x σ H2 H3 hin ⟨rfl, l, n, rfl, hl⟩ ⟨rfl, hx2⟩
    rw [List.getElem?_map] at hx2
    cases hz : r[i]? with
    | none => rw [hz] at hx2; cases hx2
    | some z =>
      rw [hz] at hx2
      cases hx2
      have hb := hr1 z (List.mem_of_getElem? hz)
      refine ⟨_, rfl, _, rfl, _, rfl, z, lo, hi, rfl, true, by simp [hb.1, hb.2], iF ?_⟩
      have hlit : lit l = true := by rcases hl with rfl | ⟨y, j, rfl, _⟩ <;> rfl
      rcases hl with rfl | ⟨y, j, rfl, hj, hy⟩
      · refine ⟨_, rfl, rfl, .inl rfl, _, rfl, iF (iF ?_)⟩
        exact ⟨_, rfl, rfl, _, _, rfl, .inr ⟨z, i, rfl, Nat.lt_succ_self i, hz⟩⟩
      · have lt : y < z := by
          obtain ⟨h1, e1⟩ := List.getElem?_eq_some_iff.mp hy
          obtain ⟨h2, e2⟩ := List.getElem?_eq_some_iff.mp hz
          have := List.pairwise_iff_getElem.mp hr2 j i h1 h2 hj
          rw [e1, e2] at this; exact this
        refine ⟨_, rfl, rfl, .inl rfl, _, rfl, iT ?_⟩
        refine ⟨_, rfl, _, rfl, _, _, rfl, rfl, _, rfl, iN (by simp; omega) ?_⟩
        exact ⟨_, rfl, rfl, _, _, rfl, .inr ⟨z, i, rfl, Nat.lt_succ_self i, hz⟩⟩
  · rintro σ H2 ⟨rfl, _⟩
    exact q
abbrev s_is_places : Stmt := top 26
abbrev N_is_places : List Str := ["thing", "stage"]
theorem sc_is_places : FnScope N_is_places ["thing", "stage"] (defScope s_is_places) := ⟨rfl, rfl, rfl, by decide +kernel, rfl, by decide +kernel, by decide +kernel⟩
def sp_is_places (K : PySem.W.Frag) : Sp := fun vs H Q _ => ∃ (x : V) (r : List Int) (n : Int), vs = [x, .int n] ∧ Dp K H x (dRow r) ∧ RisI 1 n r ∧ r ≠ [] ∧ Q (.bl true) H
theorem ok_is_places  (T : Txt K mg cl) (F : FnP K "is_places" "is_places" s_is_places [] f fd) (G_is_rising : GDef P w K mg base "is_rising" 2 ["thing", "low", "high"] [] ((sp_is_rising K))) : FnOk P w K mg base CX0 3 f fd ["thing", "stage"] ((sp_is_places K)) := by
  refine F.ok sc_is_places (fun vs H Q E h => ?_) (fun cdv A outer s H vs Q E hr h => ?_)
  · unfold sp_is_places at h; (repeat obtain ⟨_, h⟩ := h); subst_vars; rfl
  have hu := hr.units
  refine ⟨_, PSs.nox (pss_one (ps_ret (pe_and (pe_g G_is_rising hr (pa_cons (pv 0) (pa_cons pe_int (pa_cons (pv 1) pa_nil)))) (pe_one (pe_cmpR op_gt (pe_callB (call_lenA (P := P) (w := w) (K := K)) (by rfl) T.b_len (by decide +kernel) (pa_cons (pv 0) pa_nil)) pe_int (nomark _)))))), ?_⟩
  obtain ⟨x, r, n, rfl, hx, hr1, hne, q⟩ := h
  refine ⟨_, rfl, _, rfl, x, r, 1, n, rfl, hx, hr1, _, rfl, iT ?_⟩
  refine ⟨_, rfl, len_t hx ⟨_, _, rfl, rfl, ?_⟩⟩
  have e : decide ((0 : Int) < (((r.map PyData.int).length : Nat) : Int)) = true := by
    cases r with
    | nil => exact absurd rfl hne
    | cons a t => simp
  show Q (.bl (decide ((0 : Int) < (((r.map PyData.int).length : Nat) : Int)))) H
  rw [e]
  exact q
abbrev s_first_row : Stmt := top 28
abbrev N_first_row : List Str := ["stage"]
theorem sc_first_row : FnScope N_first_row ["stage"] (defScope s_first_row) := ⟨rfl, rfl, rfl, by decide +kernel, rfl, by decide +kernel, by decide +kernel⟩
def sp_first_row : Sp := fun vs H Q _ => ∃ n : Nat, vs = [.int n] ∧ n ≤ 8 ∧ ∀ v H', Ex H H' → Dt H' v (dRow (rgI n)) → Q v H'
theorem rgV_rgI (n : Nat) : rgV 1 ((n : Int) + 1) = (rgI n).map V.int := by
  unfold rgV rgI
  rw [show ((n : Int) + 1 - 1).toNat = n by omega, List.map_map]
  rfl
theorem ok_first_row  (T : Txt K mg cl) (F : FnP K "first_row" "first_row" s_first_row [] f fd)  : FnOk P w K mg base CX0 1 f fd ["stage"] (sp_first_row) := by
  refine F.ok sc_first_row (fun vs H Q E h => ?_) (fun cdv A outer s H vs Q E hr h => ?_)
  · unfold sp_first_row at h; (repeat obtain ⟨_, h⟩ := h); subst_vars; rfl
  have hu := hr.units
  refine ⟨_, PSs.nox (pss_one (ps_ret (pe_tupleRangeN rfl (by rfl) T.b_tuple (by rfl) T.b_range pe_int (pe_op (op_addA (K := K)) (pv 0) pe_int)))), ?_⟩
  obtain ⟨n, rfl, hn, q⟩ := h
  refine ⟨_, rfl, add_i ⟨1, (n : Int) + 1, rfl, rfl, .of_le (by omega) (by omega) (by omega) (by omega), fun p o hp ho => ?_⟩⟩
  rw [rgV_rgI]
  exact q _ _ (Ex.new hp) (.ofRow upd_same ho)
abbrev s_times : Stmt := top 29
abbrev N_times : List Str := ["row", "move", "place"]
theorem sc_times : FnScope N_times ["row", "move"] (defScope s_times) := ⟨rfl, rfl, rfl, by decide +kernel, rfl, by decide +kernel, by decide +kernel⟩
def sp_times (K : PySem.W.Frag) : Sp := fun vs H Q _ => ∃ (x y : V) (r m : List Int), vs = [x, y] ∧ Dp K H x (dRow r) ∧ Dp K H y (dRow m) ∧ (∀ i ∈ m, 1 ≤ i ∧ i ≤ (r.length : Int)) ∧ m.length ≤ 8 ∧ ∀ v H', Ex H H' → Dt H' v (dRow (tms r m)) → Q v H'
theorem ok_times  (T : Txt K mg cl) (F : FnP K "times" "times" s_times [] f fd)  : FnOk P w K mg base CX0 1 f fd ["row", "move"] ((sp_times K)) := by
  refine F.ok sc_times (fun vs H Q E h => ?_) (fun cdv A outer s H vs Q E hr h => ?_)
  · unfold sp_times at h; (repeat obtain ⟨_, h⟩ := h); subst_vars; rfl
  have hu := hr.units
  refine ⟨_, PSs.nox (pss_one (ps_ret (pe_callTy (call_tupN (K := K)) (by rfl) T.b_tuple (by decide +kernel) (pa_cons (pe_lc (own := [("place", 2)]) rfl sc_times.nd (pi_tup (pv 1)) (blkOk_by (N := N_times) (sc := defScope s_times) (by decide +kernel)) (fun _ _ _ _ _ => (pg_name (i := 2) sc_times.nd rfl (Or.inl rfl))) (fun _ _ _ _ _ => pts_nil) (fun _ _ _ _ _ => (pe_ix (ix_A (P := P) (w := w) (K := K) hu) (pv 0) (pe_op op_sub (pv 2) pe_int) (fun _ _ => rfl)))) pa_nil)))), ?_⟩
  obtain ⟨x, y, r, m, rfl, hx, hy, hm, hl, q⟩ := h
  obtain ⟨a, rfl, ha⟩ := hy.row
  refine ⟨_, rfl, a, rfl, ⟨_, ha⟩, fun D nD => ?_⟩
  refine lc_gen (walk_tup (xs := m.map V.int)) (fun i acc H => acc = ((tms r m).take i).map V.int) (fun _ _ _ _ _ h => h) nD rfl (fun H2 e => ex_t e ha) ?_ ?_
  · rintro i z acc H2 H3 hi l hD e1 rfl ⟨rfl, hz⟩
    rw [List.getElem?_map] at hz
    cases hj : m[i]? with
    | none => rw [hj] at hz; cases hz
    | some j =>
      rw [hj] at hz
      cases hz
      have hb := hm j (List.mem_of_getElem? hj)
      refine ⟨rfl, yT ⟨_, rfl, _, rfl, _, _, rfl, rfl, ?_⟩⟩
      have hlt : (j - 1).toNat < r.length := by omega
      refine ix_r (hx.ex e1) (j := r.getD (j - 1).toNat 0) (atZ (by omega) (getD_some hlt)) ?_
      refine LcN.mk (fun _ _ _ _ _ h => h) nD hD e1 (Ex.refl _) l (by rw [sizeLine_eq]; simp at hi; omega) ?_
      rw [List.take_succ]
      have e : (tms r m)[i]? = some (r.getD (j - 1).toNat 0) := by simp [tms, hj]
      rw [e]
      simp
  · rintro ys H2 e1 hD hl2 rfl
    refine tup_l (sq_of hD) fun p o np ho => q _ _ (e1.trans (Ex.new np)) (.ofRow (o := o) ?_ ho)
    rw [upd_same, List.take_of_length_le (by simp [tms])]
abbrev s_place_in : Stmt := top 30
abbrev N_place_in : List Str := ["row", "bell"]
theorem sc_place_in : FnScope N_place_in ["row", "bell"] (defScope s_place_in) := ⟨rfl, rfl, rfl, by decide +kernel, rfl, by decide +kernel, by decide +kernel⟩
def sp_place_in : Sp := fun vs H Q _ => ∃ (x : V) (r : List Int) (b : Int) (j : Nat), vs = [x, .int b] ∧ Dt H x (dRow r) ∧ r[j]? = some b ∧ r.Nodup ∧ Q (.int ((j : Int) + 1)) H
theorem nodup_first {r : List Int} {j : Nat} {b : Int} (hn : r.Nodup) (h : r[j]? = some b) (m : Nat) (hm : m < j) : r[m]? ≠ some b := fun e => by
  obtain ⟨h1, e1⟩ := List.getElem?_eq_some_iff.mp h
  obtain ⟨h2, e2⟩ := List.getElem?_eq_some_iff.mp e
  have := (List.pairwise_iff_getElem.mp hn) m j h2 h1 hm
  rw [e1, e2] at this
  exact this rfl
theorem ok_place_in  (T : Txt K mg cl) (F : FnP K "place_in" "place_in" s_place_in [] f fd)  : FnOk P w K mg base CX0 1 f fd ["row", "bell"] (sp_place_in) := by
  refine F.ok sc_place_in (fun vs H Q E h => ?_) (fun cdv A outer s H vs Q E hr h => ?_)
  · unfold sp_place_in at h; (repeat obtain ⟨_, h⟩ := h); subst_vars; rfl
  have hu := hr.units
  refine ⟨_, PSs.nox (pss_one (ps_ret (pe_op (op_addA (K := K)) (pe_bn (P := P) (w := w) (K := K) PySem.F.plainAttrs_tuple PySem.F.slot_tuple_index PySem.F.type_tuple_index mt_tup_indexI (pv 0) (pa_cons (pv 1) pa_nil)) pe_int))), ?_⟩
  obtain ⟨x, r, b, j, rfl, hx, hj, hn, q⟩ := h
  obtain ⟨a, o, rfl, ha, ho⟩ := hx.row
  exact ⟨_, rfl, ty_t ha ho, _, rfl, ⟨a, r, b, j, rfl, rfl, .inl (.inr ⟨o, ha⟩), hj, nodup_first hn hj, add_i q⟩⟩
end
end L2
set_option Elab.async false
set_option linter.all false
set_option maxRecDepth 100000
set_option maxHeartbeats 4000000
namespace L2
open PySem PySem.Spec PyProof.Rows Evl
section
variable {P : Program} {w : World} {K : PySem.W.Frag} {mg : Str → Option Value} {base : Heap} {f : Addr} {fd : FuncData} {cl : Cls6}
theorem mapInt_get {r : List Int} {i : Nat} {x : V} (h : (r.map V.int)[i]? = some x) : ∃ z, r[i]? = some z ∧ x = .int z := by
  rw [List.getElem?_map] at h
  cases e : r[i]? with
  | none => rw [e] at h; cases h
  | some z => rw [e] at h; exact ⟨z, rfl, (Option.some.inj h).symm⟩
theorem rgV_rgR (n : Nat) : rgV 1 ((n : Int) + 1) = (rgR n 1).map V.int := by rw [rgV_rgI, rgI_rgR]
abbrev s_change_move : Stmt := top 31
abbrev N_change_move : List Str := ["change", "stage", "out", "place"]
theorem sc_change_move : FnScope N_change_move ["change", "stage"] (defScope s_change_move) := ⟨rfl, rfl, rfl, by decide +kernel, rfl, by decide +kernel, by decide +kernel⟩
def sp_change_move (K : PySem.W.Frag) : Sp := fun vs H Q _ => ∃ (x : V) (c : List Int) (n : Nat), vs = [x, .int n] ∧ Dp K H x (dRow c) ∧ Mad n 1 c ∧ n ≤ 8 ∧ ∀ v H', Ex H H' → Dt H' v (dRow (mvOf n c)) → Q v H'
def CmI (x : V) (c : List Int) (n : Nat) (p : Addr) (H : Hp) (m : Nat) (σ : St) (H2 : Hp) : Prop := ∃ (s : Nat) (pre c' : List Int), σ = [some x, some (.int n), some (.ref p), some (.int s)] ∧ H2 = upd H p (.lst ((pre ++ rgR m s).map V.int)) ∧ s + m = n + 1 ∧ pre.length + 1 = s ∧ Mad m s c' ∧ (∀ z : Int, (s : Int) ≤ z → c.contains z = c'.contains z) ∧ pre ++ cmv c m s = mvOf n c
theorem set_two {α : Type} (pre : List α) (a b x y : α) (l : List α) : ((pre ++ a :: b :: l).set pre.length x).set (pre.length + 1) y = pre ++ x :: y :: l := by
  rw [List.set_append_right _ _ (Nat.le_refl _), Nat.sub_self, List.set_append_right _ _ (by omega), show pre.length + 1 - pre.length = 1 by omega]
  rfl
theorem ok_change_move  (T : Txt K mg cl) (F : FnP K "change_move" "change_move" s_change_move [] f fd)  : FnOk P w K mg base CX0 1 f fd ["change", "stage"] ((sp_change_move K)) := by
  refine F.ok sc_change_move (fun vs H Q E h => ?_) (fun cdv A outer s H vs Q E hr h => ?_)
  · unfold sp_change_move at h; (repeat obtain ⟨_, h⟩ := h); subst_vars; rfl
  have hu := hr.units
  refine ⟨_, PSs.nox (pss_cons (ps_set (i := 2) sc_change_move.nd rfl (Or.inl rfl) (pe_listRange rfl (by rfl) T.b_list (by rfl) T.b_range pe_int (pe_op (op_addA (K := K)) (pv 1) pe_int)))
      (pss_cons (ps_set (i := 3) sc_change_move.nd rfl (Or.inl rfl) pe_int)
      (pss_cons (ps_while PassesOwn.never (pt_cmpR op_le (pv 3) (pv 1) (nomark _)) (pss_one (ps_if (pt_cmpR (op_inA (P := P) (w := w) (K := K) hu) (pv 3) (pv 0) (by rfl)) (pss_one (ps_aug (i := 3) sc_change_move.nd rfl (Or.inl rfl) pe_int ip_add)) (pss_cons (ps_asg (pe_op (op_addA (K := K)) (pv 3) pe_int) (pg_sub (pv 2) (pe_op op_sub (pv 3) pe_int) (set_A (P := P) (w := w) (K := K) hu)))
      (pss_cons (ps_asg (pv 3) (pg_sub (pv 2) (pv 3) (set_A (P := P) (w := w) (K := K) hu)))
      (pss_one (ps_aug (i := 3) sc_change_move.nd rfl (Or.inl rfl) pe_int ip_add)))))))
      (pss_one (ps_ret (pe_callTy (call_tupN (K := K)) (by rfl) T.b_tuple (by decide +kernel) (pa_cons (pv 2) pa_nil))))))), ?_⟩
  obtain ⟨x, c, n, rfl, hx, hc, hn, q⟩ := h
  refine ⟨_, rfl, add_i ⟨1, (n : Int) + 1, rfl, rfl, .of_le (by omega) (by omega) (by omega) (by omega), fun p hp => ?_⟩⟩
  refine ⟨CmI x c n p H, ⟨n, 1, [], c, rfl, by rw [rgV_rgR]; rfl, by omega, rfl, hc, fun _ _ => rfl, rfl⟩, ?_⟩
  rintro m σ H2 ⟨s, pre, c', rfl, rfl, hs, hp1, hm, hcc, hmv⟩
  refine ⟨_, rfl, _, rfl, _, _, rfl, rfl, _, rfl, iB (b := decide (s ≤ n)) (by rw [Bool.eq_iff_iff]; simp) (fun e => ?_) (fun e => ?_)⟩
  · have hsn : s ≤ n := of_decide_eq_true e
    obtain ⟨k, rfl⟩ : ∃ k, m = k + 1 := ⟨m - 1, by omega⟩
    have hx2 : Dp K (upd H p (.lst ((pre ++ rgR (k + 1) s).map V.int))) x (dRow c) := hx.ex (Ex.new hp)
    refine ⟨fun σ' H' => ∃ m', m' < k + 1 ∧ CmI x c n p H m' σ' H', fun _ _ h => h, ?_⟩
    refine ⟨_, rfl, _, rfl, in_r hx2 ⟨_, rfl, iB (b := c'.contains s) (hcc s (by omega)) (fun e => ?_) (fun e => ?_)⟩⟩
    · rcases hm.step with ⟨_, c2, rfl, hm2⟩ | ⟨e2, _⟩
      · refine ⟨_, rfl, _, _, rfl, rfl, k, by omega, s + 1, pre ++ [(s : Int)], c2, rfl, ?_, by omega, by simp; omega, by simpa using hm2, ?_, ?_⟩
        · rw [List.append_assoc]; rfl
        · intro z hz
          rw [hcc z (by omega)]
          rw [List.contains_cons]
          have : (z == (s : Int)) = false := by rw [beq_eq_false_iff_ne]; omega
          rw [this, Bool.false_or]
        · rw [← hmv, List.append_assoc]
          congr 1
          cases k with
          | zero => rfl
          | succ k =>
            show _ = cmv c (k + 2) s
            rw [cmv]
            rw [if_pos (by rw [hcc s (by omega)]; simp)]
            rfl
      · rw [e2] at e; cases e
    · rcases hm.step with ⟨e2, _⟩ | ⟨_, j, rfl, hm2⟩
      · rw [e2] at e; cases e
      · have lst0 : ((pre ++ rgR (j + 1 + 1) s).map V.int) = pre.map V.int ++ (.int s :: .int (s + 1) :: (rgR j (s + 2)).map V.int) := by
          simp [rgR, Int.add_assoc]
        have ln : (pre ++ rgR (j + 1 + 1) s).length = n := by rw [List.length_append, rgR_length]; omega
        have ix1 : ∀ (l : List V) (q : Nat), l.length = n → q < n → ixN l.length (q : Int) = some q := fun l q hl hq => by
          unfold ixN
          rw [hl, if_pos (by omega), if_pos (by omega)]
          simp
        refine ⟨_, rfl, add_i ⟨_, rfl, _, rfl, _, _, rfl, rfl, set_l ⟨p, _, _, s - 1, rfl, rfl, upd_same, ?_, ?_⟩⟩⟩
        · rw [show (s : Int) - 1 = ((s - 1 : Nat) : Int) by omega]
          exact ix1 _ _ (by rw [List.length_map, ln]) (by omega)
        refine ⟨_, rfl, _, rfl, _, rfl, set_l ⟨p, _, _, s, rfl, rfl, upd_same, ix1 _ _ (by rw [List.length_set, List.length_map, ln]) (by omega), ?_⟩⟩
        refine ⟨_, rfl, _, _, rfl, rfl, j, by omega, s + 2, pre ++ [(s : Int) + 1, (s : Int)], c', rfl, ?_, by omega, by simp; omega, by simpa using hm2, fun z hz => hcc z (by omega), ?_⟩
        · rw [upd_upd, upd_upd, lst0]
          have e1 : s - 1 = (pre.map V.int).length := by rw [List.length_map]; omega
          have e2 : s = (pre.map V.int).length + 1 := by rw [List.length_map]; omega
          congr 2
          have z := set_two (pre.map V.int) (.int s) (.int (s + 1)) (.int (s + 1)) (.int s) ((rgR j (s + 2)).map V.int)
          rw [← e1] at z
          rw [show s - 1 + 1 = s by omega] at z
          rw [z]
          simp
        · rw [← hmv, List.append_assoc]
          congr 1
          show _ = cmv c (j + 2) s
          rw [cmv]
          rw [if_neg (by rw [hcc s (by omega), e]; simp)]
          rfl
  · have e0 : m = 0 := by have := of_decide_eq_false e; omega
    subst e0
    refine ⟨_, rfl, tup_l (xs := (pre ++ rgR 0 s).map V.int) (sq_of upd_same) fun l o hl ho => q _ _ ((Ex.new hp).trans (Ex.new hl)) (.ofRow (o := o) ?_ ho)⟩
    rw [upd_same, ← hmv]
    rfl
abbrev s_is_sound_row : Stmt := top 32
abbrev N_is_sound_row : List Str := ["thing", "stage", "there", "bell"]
theorem sc_is_sound_row : FnScope N_is_sound_row ["thing", "stage"] (defScope s_is_sound_row) := ⟨rfl, rfl, rfl, by decide +kernel, rfl, by decide +kernel, by decide +kernel⟩
def sp_is_sound_row (K : PySem.W.Frag) : Sp := fun vs H Q _ => ∃ (x : V) (r : List Int) (n : Nat), vs = [x, .int n] ∧ Dp K H x (dRow r) ∧ Pm n r ∧ n ≤ 8 ∧ ∀ H', Ex H H' → Q (.bl true) H'
theorem ok_is_sound_row  (T : Txt K mg cl) (F : FnP K "is_sound_row" "is_sound_row" s_is_sound_row [] f fd) (G_is_integer : GDef P w K mg base "is_integer" 1 ["thing", "low", "high"] [] (sp_is_integer)) : FnOk P w K mg base CX0 2 f fd ["thing", "stage"] ((sp_is_sound_row K)) := by
  refine F.ok sc_is_sound_row (fun vs H Q E h => ?_) (fun cdv A outer s H vs Q E hr h => ?_)
  · unfold sp_is_sound_row at h; (repeat obtain ⟨_, h⟩ := h); subst_vars; rfl
  have hu := hr.units
  refine ⟨_, PSs.nox (pss_cons (ps_if (PW.pt (pw_or (pt_not (pt_val (pe_callB call_isi (by rfl) T.b_isinstance (by decide +kernel) (pa_cons (pv 0) (pa_cons (pe_bltn (v := .ty "tuple") (u := .type "tuple") (by rfl) T.b_tuple (by decide +kernel) rfl) pa_nil))))) (pw_or1 (pt_cmpR (op_neA (K := K) hu) (pe_callB (call_lenA (P := P) (w := w) (K := K)) (by rfl) T.b_len (by decide +kernel) (pa_cons (pv 0) pa_nil)) (pv 1) (nomark _))))) pss_never pss_nil)
      (pss_cons (ps_set (i := 2) sc_is_sound_row.nd rfl (Or.inl rfl) pe_dnewK)
      (pss_cons (ps_for PassesOwn.never rfl (pi_tup (pv 0)) (pg_name (i := 3) sc_is_sound_row.nd rfl (Or.inl rfl)) (pss_cons (ps_if (PW.pt (pw_or (pt_not (pt_val (pe_g G_is_integer hr (pa_cons (pv 3) (pa_cons pe_int (pa_cons (pv 1) pa_nil)))))) (pw_or1 (pt_cmpR (op_inA (P := P) (w := w) (K := K) hu) (pv 3) (pv 2) (by rfl))))) pss_never pss_nil)
      (pss_one (ps_asg pe_bl (pg_sub (pv 2) (pv 3) (set_A (P := P) (w := w) (K := K) hu))))))
      (pss_one (ps_ret pe_bl))))), ?_⟩
  obtain ⟨x, r, n, rfl, hx, ⟨hl, hb, hd⟩, hn, q⟩ := h
  obtain ⟨a, rfl, ha⟩ := hx.row
  refine rd_isi rfl ha.ty (kit_ty (by decide +kernel : kitB "tuple" "tuple" = some true)) (iF ?_)
  refine ⟨_, rfl, len_t hx ⟨_, rfl, ne_i ⟨_, rfl, iN (by simp [hl]) ?_⟩⟩⟩
  intro p hp
  refine ⟨_, rfl, a, rfl, ⟨_, ex_t (Ex.new hp) ha⟩, ?_⟩
  refine for_it (walk_tup (xs := r.map V.int)) (fun i σ H2 => ∃ (kvs : List (Key × V)) (b : Option V), σ = [some (.ref a), some (.int n), some (.ref p), b] ∧ H2 = upd H p (.dK kvs) ∧ kvs.length ≤ i ∧ ∀ z : Int, (valV kvs (.inl z)).isSome = (r.take i).contains z)
    ⟨[], none, rfl, rfl, Nat.le_refl _, fun z => rfl⟩ (fun i σ H2 _ ⟨_, _, _, e, _⟩ => e ▸ ex_t (Ex.new hp) ha) ?_ ?_
  · rintro i x σ H2 H3 hi ⟨kvs, b, rfl, rfl, hk, hv⟩ ⟨rfl, hx2⟩
    obtain ⟨z, hz, rfl⟩ := mapInt_get hx2
    have hbz := hb z (List.mem_of_getElem? hz)
    have fresh : (r.take i).contains z = false := by
      rw [Bool.eq_false_iff]
      intro e
      obtain ⟨j, hj⟩ := List.mem_iff_getElem?.mp (by simpa using e : z ∈ r.take i)
      rw [List.getElem?_take] at hj
      split at hj
      · exact nodup_first hd hz j (by assumption) hj
      · cases hj
    refine ⟨_, rfl, _, rfl, z, 1, n, rfl, true, by simp [hbz.1, hbz.2], iF ?_⟩
    refine ⟨_, rfl, _, rfl, in_k (k := .inl z) (.inl upd_same) ⟨_, rfl, iN (by rw [hv, fresh]) ?_⟩⟩
    refine ⟨_, rfl, _, rfl, set_k (k := .inl z) upd_same (by rw [sizeLine_eq]; rw [List.length_map] at hi; omega) ⟨putK kvs (.inl z) (.bl true), _, rfl, upd_upd, ?_, fun y => ?_⟩⟩
    · have := length_putK kvs (.inl z) (.bl true); omega
    · rw [valV_put]
      rw [List.take_succ, hz]
      by_cases e : (y : Int) = z
      · subst e; simp
      · have : ¬ (Sum.inl y : Key) = Sum.inl z := fun h => e (Sum.inl.inj h)
        rw [if_neg this, hv]
        simp [e]
  · rintro σ H2 ⟨kvs, b, rfl, rfl, _⟩
    exact q _ (Ex.new hp)
end
end L2
set_option Elab.async false
set_option linter.all false
set_option maxRecDepth 100000
set_option maxHeartbeats 4000000
namespace L2
open PySem PySem.Spec PyProof.Rows Evl
section
variable {P : Program} {w : World} {K : PySem.W.Frag} {mg : Str → Option Value} {base : Heap} {f : Addr} {fd : FuncData} {cl : Cls6}
abbrev s_deep : Stmt := top 23
abbrev N_deep : List Str := ["thing", "level", "part"]
theorem sc_deep : FnScope N_deep ["thing", "level"] (defScope s_deep) := ⟨rfl, rfl, rfl, by decide +kernel, rfl, by decide +kernel, by decide +kernel⟩
/-- data of that depth at most, of no great width -/
def Dep : Nat → PyData → Prop
  | _, .none => True
  | _, .bool _ => True
  | _, .int _ => True
  | _, .str _ => True
  | n + 1, .tuple ds => ds.length ≤ 1000 ∧ ∀ d ∈ ds, Dep n d
  | _, _ => False
def sp_deep (K : PySem.W.Frag) (n : Nat) : Sp := fun vs H Q _ => ∃ (x : V) (d : PyData) (l : Int), vs = [x, .int l] ∧ Dp K H x d ∧ Dep n d ∧ 0 ≤ l ∧ l + n ≤ 60 ∧ ∀ v H', Ex H H' → Dt H' v d → Q v H'
/-- its answer to isinstance(x, (list, tuple)) -/
def seqB : PyData → Bool
  | .list _ => true
  | .tuple _ => true
  | _ => false
theorem seqB_ok (d : PyData) : PySem.W.kitAny K (dty d) [.type "list", .type "tuple"] = some (seqB d) := by
  cases d with
  | none => exact kitAny_cons (b := false) (kit_ty (by decide +kernel)) (fun _ => kitAny_cons (b := false) (kit_ty (by decide +kernel)) (fun _ => rfl) (fun z => by cases z)) (fun z => by cases z)
  | bool => exact kitAny_cons (b := false) (kit_ty (by decide +kernel)) (fun _ => kitAny_cons (b := false) (kit_ty (by decide +kernel)) (fun _ => rfl) (fun z => by cases z)) (fun z => by cases z)
  | int => exact kitAny_cons (b := false) (kit_ty (by decide +kernel)) (fun _ => kitAny_cons (b := false) (kit_ty (by decide +kernel)) (fun _ => rfl) (fun z => by cases z)) (fun z => by cases z)
  | str => exact kitAny_cons (b := false) (kit_ty (by decide +kernel)) (fun _ => kitAny_cons (b := false) (kit_ty (by decide +kernel)) (fun _ => rfl) (fun z => by cases z)) (fun z => by cases z)
  | list => exact kitAny_cons (b := true) (kit_ty (by decide +kernel)) (fun z => by cases z) (fun _ => rfl)
  | tuple => exact kitAny_cons (b := false) (kit_ty (by decide +kernel)) (fun _ => kitAny_cons (b := true) (kit_ty (by decide +kernel)) (fun z => by cases z) (fun _ => rfl)) (fun z => by cases z)
  | dict => exact kitAny_cons (b := false) (kit_ty (by decide +kernel)) (fun _ => kitAny_cons (b := false) (kit_ty (by decide +kernel)) (fun _ => rfl) (fun z => by cases z)) (fun z => by cases z)
theorem Dep.atom {d : PyData} (h : Dep 0 d) : seqB d = false := by cases d <;> first | rfl | exact h.elim
theorem Dp.atom {H H' : Hp} {x : V} {d : PyData} (h : Dp K H x d) (e : seqB d = false) (hn : ∀ kvs, d ≠ .dict kvs) : Dt H' x d := by
  cases h with
  | non => exact .non
  | bl b => exact .bl b
  | int i => exact .int i
  | str s => exact .str s
  | lst => cases e
  | tup => cases e
theorem Dep.nodict {n : Nat} {d : PyData} (h : Dep n d) : ∀ kvs, d ≠ .dict kvs := fun kvs e => by subst e; cases n <;> exact h.elim
theorem ok_deep0 (T : Txt K mg cl) (F : FnP K "deep" "deep" s_deep [.int 0] f fd) : FnOk P w K mg base CX0 1 f fd ["thing", "level"] (sp_deep K 0) := by
  refine F.ok sc_deep (fun vs H Q E h => ?_) (fun cdv A outer s H vs Q E hr h => ?_)
  · unfold sp_deep at h; (repeat obtain ⟨_, h⟩ := h); subst_vars; rfl
  refine ⟨_, PSs.nox (pss_cons (ps_if (PW.pt (pw_and (pt_val (pe_callB call_isiT (by rfl) T.b_isinstance (by decide +kernel) (pa_cons (pv 0) (pa_cons (pe_tup (pa_cons (pe_bltn (v := .ty "list") (u := .type "list") (by rfl) T.b_list (by decide +kernel) rfl) (pa_cons (pe_bltn (v := .ty "tuple") (u := .type "tuple") (by rfl) T.b_tuple (by decide +kernel) rfl) pa_nil))) pa_nil)))) (pw_and1 (pt_cmpR op_lt (pv 1) (pe_gci T.c_MOST_LEVELS) (nomark _))))) pss_never pss_nil)
      (pss_one (ps_ret (pv 0)))), ?_⟩
  obtain ⟨x, d, l, rfl, hx, hd, _, _, q⟩ := h
  refine rd_isiT rfl (fun H' e => (hx.ex e).ty) (seqB_ok d) fun H' e => ?_
  rw [hd.atom]
  exact iF (iF ⟨_, rfl, q _ _ e (hx.atom hd.atom hd.nodict)⟩)
theorem ok_deep {n : Nat} (T : Txt K mg cl) (F : FnP K "deep" "deep" s_deep [.int 0] f fd)  (G_deep : GDef P w K mg base "deep" (n + 1) ["thing", "level"] [] (sp_deep K n)) : FnOk P w K mg base CX0 (n + 2) f fd ["thing", "level"] (sp_deep K (n + 1)) := by
  refine F.ok sc_deep (fun vs H Q E h => ?_) (fun cdv A outer s H vs Q E hr h => ?_)
  · unfold sp_deep at h; (repeat obtain ⟨_, h⟩ := h); subst_vars; rfl
  have hu := hr.units
  refine ⟨_, PSs.nox (pss_cons (ps_if (PW.pt (pw_and (pt_val (pe_callB call_isiT (by rfl) T.b_isinstance (by decide +kernel) (pa_cons (pv 0) (pa_cons (pe_tup (pa_cons (pe_bltn (v := .ty "list") (u := .type "list") (by rfl) T.b_list (by decide +kernel) rfl) (pa_cons (pe_bltn (v := .ty "tuple") (u := .type "tuple") (by rfl) T.b_tuple (by decide +kernel) rfl) pa_nil))) pa_nil)))) (pw_and1 (pt_cmpR op_lt (pv 1) (pe_gci T.c_MOST_LEVELS) (nomark _))))) (pss_one (ps_ret (pe_callTy (call_tupN (K := K)) (by rfl) T.b_tuple (by decide +kernel) (pa_cons (pe_lc (own := [("part", 2)]) rfl sc_deep.nd (pi_tup (pv 0)) (blkOk_by (N := N_deep) (sc := defScope s_deep) (by decide +kernel)) (fun _ _ _ _ _ => (pg_name (i := 2) sc_deep.nd rfl (Or.inl rfl))) (fun _ _ _ _ _ => pts_nil) (fun _ _ _ _ _ => (pe_g (hj := Nat.le_refl _) G_deep hr (pa_cons (pv 2) (pa_cons (pe_op (op_addA (K := K)) (pv 1) pe_int) pa_nil))))) pa_nil)))) pss_nil)
      (pss_one (ps_ret (pv 0)))), ?_⟩
  obtain ⟨x, d, l, rfl, hx, hd, hl0, hl, q⟩ := h
  refine rd_isiT rfl (fun H' e => (hx.ex e).ty) (seqB_ok d) fun H' e => ?_
  by_cases hs : seqB d = true
  · rw [hs]
    obtain ⟨ds, rfl⟩ : ∃ ds, d = .tuple ds := by
      cases d with
      | tuple ds => exact ⟨ds, rfl⟩
      | list => exact hd.elim
      | _ => cases hs
    obtain ⟨hw, hds⟩ := hd
    obtain ⟨a, xs, rfl, ha, hxs⟩ := (hx.ex e).tupI
    refine iT ⟨_, rfl, _, _, rfl, rfl, _, rfl, iP (by simp; omega) ?_⟩
    refine ⟨_, rfl, a, rfl, ⟨_, ha⟩, fun D nD => ?_⟩
    refine lc_gen (walk_tup (xs := xs)) (fun i acc H => DtAll H acc (ds.take i)) (fun _ _ _ _ t h => h.tp t) nD (by rw [List.take_zero]; exact .nil) (fun H2 e2 => ex_t e2 ha) ?_ ?_
    · rintro i y acc H2 H3 hi l1 hD e1 hacc ⟨rfl, hy⟩
      obtain ⟨dy, hdy, hyd⟩ := (DpAll.ex e1 _ _ hxs).get hy
      refine ⟨rfl, yT ⟨_, rfl, _, rfl, add_i ?_⟩⟩
      refine ⟨y, dy, l + 1, rfl, hyd, hds dy (List.mem_of_getElem? hdy), by omega, by omega, fun v H4 e4 hv => ?_⟩
      refine LcN.mk (fun _ _ _ _ t h => h.tp t) nD hD e1 e4 l1 (by rw [sizeLine_eq]; rw [hxs.len] at hi; omega) ?_
      rw [List.take_succ, hdy]
      exact (hacc.ex e4).snoc hv
    · intro ys H2 e1 hD _ hys
      rw [hxs.len, List.take_length] at hys
      exact tup_d (sq_of hD) hys fun v H3 e3 hv => q _ _ ((e.trans e1).trans e3) hv
  · rw [Bool.not_eq_true] at hs
    rw [hs]
    exact iF (iF ⟨_, rfl, q _ _ e (hx.atom hs hd.nodict)⟩)
abbrev s_is_sound_change : Stmt := top 51
abbrev N_is_sound_change : List Str := ["thing", "stage", "before", "kept"]
theorem sc_is_sound_change : FnScope N_is_sound_change ["thing", "stage"] (defScope s_is_sound_change) := ⟨rfl, rfl, rfl, by decide +kernel, rfl, by decide +kernel, by decide +kernel⟩
def sp_is_sound_change (K : PySem.W.Frag) : Sp := fun vs H Q _ => ∃ (x : V) (c : List Int) (n : Nat), vs = [x, .int n] ∧ Dp K H x (dRow c) ∧ Mad n 1 c ∧ n ≤ 8 ∧ ∀ H', Ex H H' → Q (.bl true) H'
theorem gap_get : ∀ {l : List Int} {b : Int}, Gap b l → ∀ (i : Nat) (z : Int), l[i]? = some z → (z - (if i = 0 then b else l.getD (i - 1) 0) - 1) % 2 = 0
  | k :: l, b, h, 0, z, e => by
    have := h.1
    simp at e
    subst e
    exact this
  | k :: l, b, h, i + 1, z, e => by
    have := gap_get h.2 i z (by simpa using e)
    rw [if_neg (Nat.succ_ne_zero i)]
    cases i with
    | zero => simpa using this
    | succ i => simpa using this
theorem ok_is_sound_change  (T : Txt K mg cl) (F : FnP K "is_sound_change" "is_sound_change" s_is_sound_change [] f fd) (G_is_rising : GDef P w K mg base "is_rising" 2 ["thing", "low", "high"] [] ((sp_is_rising K))) : FnOk P w K mg base CX0 3 f fd ["thing", "stage"] ((sp_is_sound_change K)) := by
  refine F.ok sc_is_sound_change (fun vs H Q E h => ?_) (fun cdv A outer s H vs Q E hr h => ?_)
  · unfold sp_is_sound_change at h; (repeat obtain ⟨_, h⟩ := h); subst_vars; rfl
  have hu := hr.units
  refine ⟨_, PSs.nox (pss_cons (ps_if (pt_not (pt_val (pe_g G_is_rising hr (pa_cons (pv 0) (pa_cons pe_int (pa_cons (pv 1) pa_nil)))))) pss_never pss_nil)
      (pss_cons (ps_set (i := 2) sc_is_sound_change.nd rfl (Or.inl rfl) pe_int)
      (pss_cons (ps_for PassesOwn.never rfl (pi_list (pe_lst (StX.pa_star (pv 0) (pa_cons (pe_op (op_addA (K := K)) (pv 1) pe_int) pa_nil)))) (pg_name (i := 3) sc_is_sound_change.nd rfl (Or.inl rfl)) (pss_cons (ps_if (pt_cmpR (op_eqA (K := K) hu) (pe_op op_mod (pe_op op_sub (pe_op op_sub (pv 3) (pv 2)) pe_int) pe_int) pe_int (nomark _)) pss_never pss_nil)
      (pss_one (ps_set (i := 2) sc_is_sound_change.nd rfl (Or.inl rfl) (pv 3)))))
      (pss_one (ps_ret pe_bl))))), ?_⟩
  obtain ⟨x, c, n, rfl, hx, hc, hn, q⟩ := h
  obtain ⟨a, rfl, ha⟩ := hx.row
  refine ⟨_, rfl, _, rfl, _, c, 1, n, rfl, hx, hc.ris, true, rfl, iF ?_⟩
  refine ⟨_, rfl, a, _, rfl, .inl ha, _, rfl, add_i ⟨by rw [sizeLine_eq]; have := hc.len; simp; omega, fun p hp => ?_⟩⟩
  have eL : (c.map V.int ++ [V.int ((n : Int) + 1)]) = ((c ++ [(n : Int) + 1]).map V.int) := by simp
  rw [eL]
  have hg : Gap 0 (c ++ [(n : Int) + 1]) := by
    have := hc.gap 0 (by omega)
    rwa [show (1 : Int) + (n : Int) = (n : Int) + 1 by omega] at this
  refine ⟨p, rfl, ⟨_, sq_of upd_same⟩, ?_⟩
  refine for_it (walk_list (xs := (c ++ [(n : Int) + 1]).map V.int)) (fun i σ H2 => ∃ (b : Int) (k : Option V), σ = [some (.ref a), some (.int n), some (.int b), k] ∧ H2 = upd H p (.lst ((c ++ [(n : Int) + 1]).map V.int)) ∧ b = (if i = 0 then 0 else (c ++ [(n : Int) + 1]).getD (i - 1) 0))
    ⟨0, none, rfl, rfl, rfl⟩ (fun i σ H2 _ ⟨_, _, _, e, _⟩ => e ▸ sq_of upd_same) ?_ ?_
  · rintro i x σ H2 H3 hi ⟨b, k, rfl, rfl, hb⟩ ⟨rfl, hx2⟩
    obtain ⟨z, hz, rfl⟩ := mapInt_get hx2
    have hm := gap_get hg i z hz
    rw [← hb] at hm
    refine ⟨_, rfl, _, rfl, _, _, rfl, rfl, _, _, rfl, rfl, _, _, rfl, rfl, (by show (0 : Int) < 2; decide), ?_⟩
    refine eq_i ⟨_, rfl, iN (by rw [hm]; rfl) ?_⟩
    exact ⟨_, rfl, z, _, rfl, rfl, by simp [List.getD, hz]⟩
  · rintro σ H2 ⟨b, k, rfl, rfl, _⟩
    exact q _ (Ex.new hp)
abbrev s__law_rounds : Stmt := top 77
abbrev N__law_rounds : List Str := ["_law_stage"]
theorem sc__law_rounds : FnScope N__law_rounds ["_law_stage"] (defScope s__law_rounds) := ⟨rfl, rfl, rfl, by decide +kernel, rfl, by decide +kernel, by decide +kernel⟩
def sp__law_rounds : Sp := fun vs H Q _ => ∃ n : Nat, vs = [.int n] ∧ n ≤ 8 ∧ ∀ v H', Ex H H' → Dt H' v (dRow (rgI n)) → Q v H'
theorem ok__law_rounds  (T : Txt K mg cl) (F : FnP K "_law_rounds" "_law_rounds" s__law_rounds [] f fd)  : FnOk P w K mg base CX0 1 f fd ["_law_stage"] (sp__law_rounds) := by
  refine F.ok sc__law_rounds (fun vs H Q E h => ?_) (fun cdv A outer s H vs Q E hr h => ?_)
  · unfold sp__law_rounds at h; (repeat obtain ⟨_, h⟩ := h); subst_vars; rfl
  have hu := hr.units
  refine ⟨_, PSs.nox (pss_one (ps_ret (pe_tupleRangeN rfl (by rfl) T.b_tuple (by rfl) T.b_range pe_int (pe_op (op_addA (K := K)) (pv 0) pe_int)))), ?_⟩
  obtain ⟨n, rfl, hn, q⟩ := h
  refine ⟨_, rfl, add_i ⟨1, (n : Int) + 1, rfl, rfl, .of_le (by omega) (by omega) (by omega) (by omega), fun p o hp ho => ?_⟩⟩
  rw [rgV_rgI]
  exact q _ _ (Ex.new hp) (.ofRow upd_same ho)
abbrev s__law_moved : Stmt := top 78
abbrev N__law_moved : List Str := ["_law_row_here", "_law_move", "_law_spot"]
theorem sc__law_moved : FnScope N__law_moved ["_law_row_here", "_law_move"] (defScope s__law_moved) := ⟨rfl, rfl, rfl, by decide +kernel, rfl, by decide +kernel, by decide +kernel⟩
def sp__law_moved (K : PySem.W.Frag) : Sp := fun vs H Q _ => ∃ (x y : V) (r m : List Int), vs = [x, y] ∧ Dp K H x (dRow r) ∧ Dp K H y (dRow m) ∧ (∀ i ∈ m, 1 ≤ i ∧ i ≤ (r.length : Int)) ∧ m.length ≤ 8 ∧ ∀ v H', Ex H H' → Dt H' v (dRow (tms r m)) → Q v H'
theorem ok__law_moved  (T : Txt K mg cl) (F : FnP K "_law_moved" "_law_moved" s__law_moved [] f fd)  : FnOk P w K mg base CX0 1 f fd ["_law_row_here", "_law_move"] ((sp__law_moved K)) := by
  refine F.ok sc__law_moved (fun vs H Q E h => ?_) (fun cdv A outer s H vs Q E hr h => ?_)
  · unfold sp__law_moved at h; (repeat obtain ⟨_, h⟩ := h); subst_vars; rfl
  have hu := hr.units
  refine ⟨_, PSs.nox (pss_one (ps_ret (pe_callTy (call_tupN (K := K)) (by rfl) T.b_tuple (by decide +kernel) (pa_cons (pe_lc (own := [("_law_spot", 2)]) rfl sc__law_moved.nd (pi_tup (pv 1)) (blkOk_by (N := N__law_moved) (sc := defScope s__law_moved) (by decide +kernel)) (fun _ _ _ _ _ => (pg_name (i := 2) sc__law_moved.nd rfl (Or.inl rfl))) (fun _ _ _ _ _ => pts_nil) (fun _ _ _ _ _ => (pe_ix (ix_A (P := P) (w := w) (K := K) hu) (pv 0) (pe_op op_sub (pv 2) pe_int) (fun _ _ => rfl)))) pa_nil)))), ?_⟩
  obtain ⟨x, y, r, m, rfl, hx, hy, hm, hl, q⟩ := h
  obtain ⟨a, rfl, ha⟩ := hy.row
  refine ⟨_, rfl, a, rfl, ⟨_, ha⟩, fun D nD => ?_⟩
  refine lc_gen (walk_tup (xs := m.map V.int)) (fun i acc H => acc = ((tms r m).take i).map V.int) (fun _ _ _ _ _ h => h) nD rfl (fun H2 e => ex_t e ha) ?_ ?_
  · rintro i z acc H2 H3 hi l hD e1 rfl ⟨rfl, hz⟩
    obtain ⟨j, hj, rfl⟩ := mapInt_get hz
    have hb := hm j (List.mem_of_getElem? hj)
    refine ⟨rfl, yT ⟨_, rfl, _, rfl, _, _, rfl, rfl, ?_⟩⟩
    have hlt : (j - 1).toNat < r.length := by omega
    refine ix_r (hx.ex e1) (j := r.getD (j - 1).toNat 0) (atZ (by omega) (getD_some hlt)) ?_
    refine LcN.mk (fun _ _ _ _ _ h => h) nD hD e1 (Ex.refl _) l (by rw [sizeLine_eq]; simp at hi; omega) ?_
    rw [List.take_succ]
    have e : (tms r m)[i]? = some (r.getD (j - 1).toNat 0) := by simp [tms, hj]
    rw [e]
    simp
  · rintro ys H2 e1 hD hl2 rfl
    refine tup_l (sq_of hD) fun p o np ho => q _ _ (e1.trans (Ex.new np)) (.ofRow (o := o) ?_ ho)
    rw [upd_same, List.take_of_length_le (by simp [tms])]
abbrev s__law_is_int : Stmt := top 93
abbrev N__law_is_int : List Str := ["_law_thing"]
theorem sc__law_is_int : FnScope N__law_is_int ["_law_thing"] (defScope s__law_is_int) := ⟨rfl, rfl, rfl, by decide +kernel, rfl, by decide +kernel, by decide +kernel⟩
def sp__law_is_int (K : PySem.W.Frag) : Sp := fun vs H Q _ => ∃ (i : Int), vs = [.int i] ∧ Q (.bl true) H
theorem ok__law_is_int  (T : Txt K mg cl) (F : FnP K "_law_is_int" "_law_is_int" s__law_is_int [] f fd)  : FnOk P w K mg base CX0 1 f fd ["_law_thing"] ((sp__law_is_int K)) := by
  refine F.ok sc__law_is_int (fun vs H Q E h => ?_) (fun cdv A outer s H vs Q E hr h => ?_)
  · unfold sp__law_is_int at h; (repeat obtain ⟨_, h⟩ := h); subst_vars; rfl
  have hu := hr.units
  refine ⟨_, PSs.nox (pss_one (ps_ret (pe_and (pe_callB call_isi (by rfl) T.b_isinstance (by decide +kernel) (pa_cons (pv 0) (pa_cons (pe_bltn (v := .ty "int") (u := .type "int") (by rfl) T.b_int (by decide +kernel) rfl) pa_nil))) (pe_one (pe_not (pe_callB call_isi (by rfl) T.b_isinstance (by decide +kernel) (pa_cons (pv 0) (pa_cons (pe_bltn (v := .ty "bool") (u := .type "bool") (by rfl) T.b_bool (by decide +kernel) rfl) pa_nil)))))))), ?_⟩
  obtain ⟨i, rfl, q⟩ := h
  refine rv_isi rfl (.base (.int _)) (kit_ty (by decide +kernel : kitB "int" "int" = some true)) ⟨true, rfl, iT ?_⟩
  exact rv_isi rfl (.base (.int _)) (kit_ty (by decide +kernel : kitB "int" "bool" = some false)) ⟨false, rfl, q⟩
end
end L2
set_option Elab.async false
set_option linter.all false
set_option maxRecDepth 100000
set_option maxHeartbeats 4000000
namespace L2
open PySem PySem.Spec PyProof.Rows Evl
/-- what follows a statement, shown once -/
theorem nx_ {D : Ends} {σ : L2.St} {H : Hp} (h : D.nx σ H) : tNext D σ H := h
theorem seqK {t u : TS} {D : Ends} {σ : L2.St} {H : Hp} (M : L2.St → Hp → Prop) (k : ∀ σ' H', M σ' H' → u D σ' H') (h : (∀ σ' H', M σ' H' → u D σ' H') → tSeq t u D σ H) : tSeq t u D σ H := h k
section
variable {P : Program} {w : World} {K : PySem.W.Frag} {mg : Str → Option Value} {base : Heap} {f : Addr} {fd : FuncData} {cl : Cls6}
/-- the list of a draw: the cells at c, then five counters -/
def dLst (c : Addr) (i1 i2 i3 i4 i5 : Int) : List V := [.ref c, .int i1, .int i2, .int i3, .int i4, .int i5]
def DrΦ (c : Addr) (xs : List V) : Prop := ∃ i1 i2 i3 i4 i5 : Int, xs = dLst c i1 i2 i3 i4 i5 ∧ 0 ≤ i1
/-- a draw stands at a, hidden -/
def DrawAt (K : PySem.W.Frag) (H : Hp) (a : Addr) : Prop := ∃ (c : Addr) (cs : List Int), H a = some (hidO a (DrΦ c)) ∧ SqL K H c (cs.map V.int) ∧ cs.length ≤ 63
theorem DrawAt.ex {H H' : Hp} {a : Addr} (h : DrawAt K H a) (e : Ex H H') : DrawAt K H' a := by
  obtain ⟨c, cs, h1, h2, h3⟩ := h
  exact ⟨c, cs, e _ _ h1, ex_l e h2, h3⟩
abbrev s__law_draw : Stmt := top 74
abbrev N__law_draw : List Str := ["_law_script", "_law_cells", "_law_cell"]
theorem sc__law_draw : FnScope N__law_draw ["_law_script"] (defScope s__law_draw) := ⟨rfl, rfl, rfl, by decide +kernel, rfl, by decide +kernel, by decide +kernel⟩
def sp_draw0 (K : PySem.W.Frag) : Sp := fun vs H Q _ => ∃ (x : Addr) (cs : List Int), vs = [.ref x] ∧ SqL K H x (cs.map V.int) ∧ cs.length ≤ 63 ∧
  ∀ a c H' i1 i2 i3 i4 i5, Ex H H' → H' c = some (.lst (cs.map V.int)) → 0 ≤ i1 → H' a = none → Q (.ref a) (upd H' a (.lst (dLst c i1 i2 i3 i4 i5)))
def sp__law_draw (K : PySem.W.Frag) : Sp := fun vs H Q _ => ∃ (x : Addr) (cs : List Int), vs = [.ref x] ∧ SqL K H x (cs.map V.int) ∧ cs.length ≤ 63 ∧ ∀ a H', Ex H H' → DrawAt K H' a → Q (.ref a) H'
theorem ok_draw0  (T : Txt K mg cl) (F : FnP K "_law_draw" "_law_draw" s__law_draw [] f fd)  : FnOk P w K mg base CX0 1 f fd ["_law_script"] ((sp_draw0 K)) := by
  refine F.ok sc__law_draw (fun vs H Q E h => ?_) (fun cdv A outer s H vs Q E hr h => ?_)
  · unfold sp_draw0 at h; (repeat obtain ⟨_, h⟩ := h); subst_vars; rfl
  have hu := hr.units
  refine ⟨_, PSs.nox (pss_cons (ps_setLc (i := 1) (own := [("_law_cell", 2)]) rfl sc__law_draw.nd rfl rfl (sw_true rfl rfl rfl (by decide +kernel)) (pi_list (pv 0)) (blkOk_by (N := N__law_draw) (sc := defScope s__law_draw) (by decide +kernel)) (fun _ _ _ _ _ => (pg_name (i := 2) sc__law_draw.nd rfl (Or.inl rfl))) (fun _ _ _ _ _ => pts_nil) (fun _ _ _ _ _ => (pv 2)))
      (pss_one (ps_ret (pe_lst (pa_cons (pv 1) (pa_cons pe_int (pa_cons pe_int (pa_cons pe_int (pa_cons pe_int (pa_cons (pe_op (op_addA (K := K)) (pe_op op_mod (pe_callTy call_int1 (by rfl) T.b_int (by decide +kernel) (pa_cons (pe_callB (cr_sum rfl) (by rfl) T.b_sum (by decide +kernel) (pa_cons (pv 1) pa_nil)) pa_nil)) pe_int) (pe_op op_mul pe_int (pe_callB (call_lenA (P := P) (w := w) (K := K)) (by rfl) T.b_len (by decide +kernel) (pa_cons (pv 1) pa_nil)))) pa_nil)))))))))), ?_⟩
  obtain ⟨x, cs, rfl, hx, hl, q⟩ := h
  refine ⟨_, rfl, x, rfl, ⟨_, hx⟩, fun D nD => ?_⟩
  refine lc_gen (walk_list (xs := cs.map V.int)) (fun i acc H => acc = (cs.take i).map V.int) (fun _ _ _ _ _ h => h) nD rfl (fun H2 e => ex_l e hx) ?_ ?_
  · rintro i y acc H2 H3 hi l1 hD e1 rfl ⟨rfl, hy⟩
    obtain ⟨z, hz, rfl⟩ := mapInt_get hy
    refine ⟨rfl, yT ⟨_, rfl, LcN.mk (fun _ _ _ _ _ h => h) nD hD e1 (Ex.refl _) l1 (by rw [sizeLine_eq]; rw [List.length_map] at hi; omega) ?_⟩⟩
    rw [List.take_succ, hz]
    simp
  · rintro ys H2 e1 hD _ rfl
    rw [List.take_of_length_le (by rw [List.length_map]; exact Nat.le_refl _)] at hD
    refine ⟨_, rfl, _, rfl, D, cs, rfl, sq_of hD, ?_⟩
    refine .inl ⟨_, rfl, _, _, rfl, rfl, (by show (0 : Int) < 1000003; decide), _, rfl, ?_⟩
    refine len_l (sq_of hD) ⟨_, _, rfl, rfl, ⟨.inl ⟨by decide, by decide⟩, add_i ⟨by show 6 ≤ sizeLine; decide, fun a ha => ?_⟩⟩⟩
    exact q a D H2 0 0 0 0 _ e1 hD (by decide) ha
theorem ok__law_draw (T : Txt K mg cl) (F : FnP K "_law_draw" "_law_draw" s__law_draw [] f fd) : FnOk P w K mg base CX0 1 f fd ["_law_script"] (sp__law_draw K) := by
  refine (ok_draw0 T F).hideNew (fun vs H Q E h => ?_) (fun vs H Q E h => ?_)
  · obtain ⟨x, cs, rfl, hx, hl, q⟩ := h
    refine ⟨x, cs, rfl, hx, hl, fun a c H' i1 i2 i3 i4 i5 e hc h1 ha => ⟨a, _, DrΦ c, fresh_back e ha, upd_same, ⟨i1, i2, i3, i4, i5, rfl, h1⟩, ?_⟩⟩
    rw [upd_upd]
    refine q _ _ (e.trans (Ex.new ha)) ⟨c, cs, upd_same, ex_l (Ex.new ha) (sq_of hc), hl⟩
  · obtain ⟨x, cs, rfl, _⟩ := h
    rfl
abbrev s__law_mix : Stmt := top 75
abbrev N__law_mix : List Str := ["_law_cell", "_law_turn", "_law_one", "_law_two"]
theorem sc__law_mix : FnScope N__law_mix ["_law_cell", "_law_turn"] (defScope s__law_mix) := ⟨rfl, rfl, rfl, by decide +kernel, rfl, by decide +kernel, by decide +kernel⟩
def sp__law_mix : Sp := fun vs H Q _ => ∃ (i j : Int), vs = [.int i, .int j] ∧ ∀ r : Int, 0 ≤ r → Q (.int r) H
theorem ok__law_mix  (T : Txt K mg cl) (F : FnP K "_law_mix" "_law_mix" s__law_mix [] f fd)  : FnOk P w K mg base CX0 1 f fd ["_law_cell", "_law_turn"] (sp__law_mix) := by
  refine F.ok sc__law_mix (fun vs H Q E h => ?_) (fun cdv A outer s H vs Q E hr h => ?_)
  · unfold sp__law_mix at h; (repeat obtain ⟨_, h⟩ := h); subst_vars; rfl
  have hu := hr.units
  refine ⟨_, PSs.nox (pss_cons (ps_set (i := 2) sc__law_mix.nd rfl (Or.inl rfl) (pe_op op_mod (pe_callTy call_int1 (by rfl) T.b_int (by decide +kernel) (pa_cons (pe_op (op_addA (K := K)) (pe_op (op_addA (K := K)) (pe_op op_mul (pv 0) pe_int) (pe_op op_mul (pv 1) pe_int)) pe_int) pa_nil)) pe_int))
      (pss_cons (ps_set (i := 3) sc__law_mix.nd rfl (Or.inl rfl) (pe_op op_mod (pe_callTy call_int1 (by rfl) T.b_int (by decide +kernel) (pa_cons (pe_op (op_addA (K := K)) (pe_op (op_addA (K := K)) (pe_op op_mul (pv 2) (pv 2)) (pe_op op_mul (pv 1) pe_int)) (pv 0)) pa_nil)) pe_int))
      (pss_cons (ps_set (i := 3) sc__law_mix.nd rfl (Or.inl rfl) (pe_op op_mod (pe_callTy call_int1 (by rfl) T.b_int (by decide +kernel) (pa_cons (pe_op (op_addA (K := K)) (pe_op op_mul (pv 3) (pv 3)) (pv 2)) pa_nil)) pe_int))
      (pss_one (ps_ret (pe_op op_fdiv (pv 3) pe_int)))))), ?_⟩
  obtain ⟨i, j, rfl, q⟩ := h
  have b1 : ∀ a b : Int, CMul a 48271 ∧ CMul b 69621 ∧ CMul b 7919 := fun a b => ⟨.inr ⟨by decide, by decide⟩, .inr ⟨by decide, by decide⟩, .inr ⟨by decide, by decide⟩⟩
  refine ⟨_, rfl, _, _, rfl, rfl, (b1 i j).1, ?_⟩
  refine ⟨_, rfl, _, _, rfl, rfl, (b1 i j).2.1, ?_⟩
  refine add_i (add_i (.inl ⟨_, rfl, _, _, rfl, rfl, (by show (0 : Int) < 2147483647; decide), ?_⟩))
  have b2 : ∀ m : Int, 0 ≤ m % 2147483647 ∧ m % 2147483647 < 2147483647 := fun m => ⟨Int.emod_nonneg _ (by decide), Int.emod_lt_of_pos _ (by decide)⟩
  have b3 : ∀ m : Int, 0 ≤ m % 998244353 ∧ m % 998244353 < 998244353 := fun m => ⟨Int.emod_nonneg _ (by decide), Int.emod_lt_of_pos _ (by decide)⟩
  have b4 : ∀ m : Int, 0 ≤ m % 1000000007 ∧ m % 1000000007 < 1000000007 := fun m => ⟨Int.emod_nonneg _ (by decide), Int.emod_lt_of_pos _ (by decide)⟩
  generalize i * 48271 + j * 69621 + 12345 = m1
  have g1 := b2 m1
  refine ⟨_, rfl, _, rfl, _, _, rfl, rfl, .inl ⟨by omega, by omega⟩, ?_⟩
  refine ⟨_, rfl, _, _, rfl, rfl, (b1 i j).2.2, ?_⟩
  refine add_i ⟨_, rfl, add_i (.inl ⟨_, rfl, _, _, rfl, rfl, (by show (0 : Int) < 998244353; decide), ?_⟩)⟩
  generalize m1 % 2147483647 * (m1 % 2147483647) + j * 7919 + i = m2
  have g2 := b3 m2
  refine ⟨_, rfl, _, rfl, _, _, rfl, rfl, .inl ⟨by omega, by omega⟩, ?_⟩
  refine ⟨_, rfl, add_i (.inl ⟨_, rfl, _, _, rfl, rfl, (by show (0 : Int) < 1000000007; decide), ?_⟩)⟩
  generalize m2 % 998244353 * (m2 % 998244353) + m1 % 2147483647 = m3
  have g3 := b4 m3
  refine ⟨_, rfl, _, _, rfl, rfl, ⟨by decide, by decide⟩, ?_⟩
  exact q _ (Int.ediv_nonneg g3.1 (by decide))
abbrev s__law_pick : Stmt := top 76
abbrev N__law_pick : List Str := ["_law_draw_here", "_law_many", "_law_cell", "_law_digit", "_law_found"]
theorem sc__law_pick : FnScope N__law_pick ["_law_draw_here", "_law_many"] (defScope s__law_pick) := ⟨rfl, rfl, rfl, by decide +kernel, rfl, by decide +kernel, by decide +kernel⟩
def sp_pick0 (K : PySem.W.Frag) : Sp := fun vs H Q _ => ∃ (a c : Addr) (cs : List Int) (m i1 i2 i3 i4 i5 : Int), vs = [.ref a, .int m] ∧ H a = some (.lst (dLst c i1 i2 i3 i4 i5)) ∧ (∀ o, SqL K (upd H a o) c (cs.map V.int)) ∧ 0 ≤ i1 ∧ m < 1073741824 ∧
  ∀ (r : Nat) ys, ((r : Int) < m ∨ r = 0) → DrΦ c ys → Q (.int r) (upd H a (.lst ys))
theorem ok_pick0  (T : Txt K mg cl) (F : FnP K "_law_pick" "_law_pick" s__law_pick [] f fd) (G__law_mix : GDef P w K mg base "_law_mix" 1 ["_law_cell", "_law_turn"] [] (sp__law_mix)) : FnOk P w K mg base CX0 2 f fd ["_law_draw_here", "_law_many"] ((sp_pick0 K)) := by
  refine F.ok sc__law_pick (fun vs H Q E h => ?_) (fun cdv A outer s H vs Q E hr h => ?_)
  · unfold sp_pick0 at h; (repeat obtain ⟨_, h⟩ := h); subst_vars; rfl
  have hu := hr.units
  refine ⟨_, PSs.nox (pss_cons (ps_if (pt_cmpR op_lt (pv 1) pe_int (nomark _)) (pss_one (ps_ret pe_int)) pss_nil)
      (pss_cons (ps_if (PW.pt (pw_and (pt_cmpR (op_eqA (K := K) hu) (pe_ix (ix_A (P := P) (w := w) (K := K) hu) (pv 0) pe_int (fun _ _ => rfl)) pe_int (nomark _)) (pw_and (pt_cmpR op_lt (pe_ix (ix_A (P := P) (w := w) (K := K) hu) (pv 0) pe_int (fun _ _ => rfl)) (pe_callB (call_lenA (P := P) (w := w) (K := K)) (by rfl) T.b_len (by decide +kernel) (pa_cons (pe_ix (ix_A (P := P) (w := w) (K := K) hu) (pv 0) pe_int (fun _ _ => rfl)) pa_nil)) (nomark _)) (pw_and1 (pt_cmpR (op_eqA (K := K) hu) (pe_ix (ix_A (P := P) (w := w) (K := K) hu) (pv 0) pe_int (fun _ _ => rfl)) pe_int (nomark _)))))) (pss_cons (ps_set (i := 2) sc__law_pick.nd rfl (Or.inl rfl) (pe_ix (ix_A (P := P) (w := w) (K := K) hu) (pe_ix (ix_A (P := P) (w := w) (K := K) hu) (pv 0) pe_int (fun _ _ => rfl)) (pe_ix (ix_A (P := P) (w := w) (K := K) hu) (pv 0) pe_int (fun _ _ => rfl)) (fun _ _ => rfl)))
      (pss_one (ps_if (PW.pt (pw_or (pt_cmpR op_ge (pv 2) (pe_op op_powX pe_int pe_int) (nomark _)) (pw_or1 (pt_cmpR op_le (pv 2) (pe_un un_neg (pe_op op_powX pe_int pe_int)) (nomark _))))) (pss_cons (ps_asg (pe_op op_mod (pe_callTy call_int1 (by rfl) T.b_int (by decide +kernel) (pa_cons (pe_callB call_abs (by rfl) T.b_abs (by decide +kernel) (pa_cons (pv 2) pa_nil)) pa_nil)) (pe_op op_powX (pe_op op_powX pe_int pe_int) pe_int)) (pg_sub (pv 0) pe_int (set_A (P := P) (w := w) (K := K) hu)))
      (pss_one (ps_asg (pe_op (op_addA (K := K)) (pe_ix (ix_A (P := P) (w := w) (K := K) hu) (pv 0) pe_int (fun _ _ => rfl)) pe_int) (pg_sub (pv 0) pe_int (set_A (P := P) (w := w) (K := K) hu))))) pss_nil))) pss_nil)
      (pss_cons (ps_if (pt_cmpR op_gt (pe_ix (ix_A (P := P) (w := w) (K := K) hu) (pv 0) pe_int (fun _ _ => rfl)) pe_int (nomark _)) (pss_cons (ps_set (i := 3) sc__law_pick.nd rfl (Or.inl rfl) (pe_op op_mod (pe_callTy call_int1 (by rfl) T.b_int (by decide +kernel) (pa_cons (pe_ix (ix_A (P := P) (w := w) (K := K) hu) (pv 0) pe_int (fun _ _ => rfl)) pa_nil)) (pv 1)))
      (pss_cons (ps_asg (pe_op op_fdiv (pe_ix (ix_A (P := P) (w := w) (K := K) hu) (pv 0) pe_int (fun _ _ => rfl)) (pv 1)) (pg_sub (pv 0) pe_int (set_A (P := P) (w := w) (K := K) hu)))
      (pss_one (ps_ret (pv 3))))) pss_nil)
      (pss_cons (ps_if (pt_cmpR op_lt (pe_ix (ix_A (P := P) (w := w) (K := K) hu) (pv 0) pe_int (fun _ _ => rfl)) (pe_callB (call_lenA (P := P) (w := w) (K := K)) (by rfl) T.b_len (by decide +kernel) (pa_cons (pe_ix (ix_A (P := P) (w := w) (K := K) hu) (pv 0) pe_int (fun _ _ => rfl)) pa_nil)) (nomark _)) (pss_cons (ps_set (i := 2) sc__law_pick.nd rfl (Or.inl rfl) (pe_ix (ix_A (P := P) (w := w) (K := K) hu) (pe_ix (ix_A (P := P) (w := w) (K := K) hu) (pv 0) pe_int (fun _ _ => rfl)) (pe_ix (ix_A (P := P) (w := w) (K := K) hu) (pv 0) pe_int (fun _ _ => rfl)) (fun _ _ => rfl)))
      (pss_cons (ps_asg (pe_op (op_addA (K := K)) (pe_ix (ix_A (P := P) (w := w) (K := K) hu) (pv 0) pe_int (fun _ _ => rfl)) pe_int) (pg_sub (pv 0) pe_int (set_A (P := P) (w := w) (K := K) hu)))
      (pss_cons (ps_set (i := 4) sc__law_pick.nd rfl (Or.inl rfl) (pe_op op_mod (pe_callTy call_int1 (by rfl) T.b_int (by decide +kernel) (pa_cons (pe_g G__law_mix hr (pa_cons (pe_op (op_addA (K := K)) (pv 2) (pe_op op_mul pe_int (pe_ix (ix_A (P := P) (w := w) (K := K) hu) (pv 0) pe_int (fun _ _ => rfl)))) (pa_cons (pe_ix (ix_A (P := P) (w := w) (K := K) hu) (pv 0) pe_int (fun _ _ => rfl)) pa_nil))) pa_nil)) (pv 1)))
      (pss_cons (ps_if (pt_cmpR (op_eqA (K := K) hu) (pe_ix (ix_A (P := P) (w := w) (K := K) hu) (pv 0) pe_int (fun _ _ => rfl)) pe_int (nomark _)) (pss_cons (ps_asg pe_int (pg_sub (pv 0) pe_int (set_A (P := P) (w := w) (K := K) hu)))
      (pss_one (ps_asg (pe_op (op_addA (K := K)) (pe_ix (ix_A (P := P) (w := w) (K := K) hu) (pv 0) pe_int (fun _ _ => rfl)) pe_int) (pg_sub (pv 0) pe_int (set_A (P := P) (w := w) (K := K) hu))))) pss_nil)
      (pss_one (ps_ret (pv 4))))))) pss_nil)
      (pss_cons (ps_asg (pe_op (op_addA (K := K)) (pe_ix (ix_A (P := P) (w := w) (K := K) hu) (pv 0) pe_int (fun _ _ => rfl)) pe_int) (pg_sub (pv 0) pe_int (set_A (P := P) (w := w) (K := K) hu)))
      (pss_one (ps_ret (pe_op op_mod (pe_callTy call_int1 (by rfl) T.b_int (by decide +kernel) (pa_cons (pe_g G__law_mix hr (pa_cons (pe_ix (ix_A (P := P) (w := w) (K := K) hu) (pv 0) pe_int (fun _ _ => rfl)) (pa_cons (pe_op (op_addA (K := K)) (pe_ix (ix_A (P := P) (w := w) (K := K) hu) (pv 0) pe_int (fun _ _ => rfl)) pe_int) pa_nil))) pa_nil)) (pv 1))))))))), ?_⟩
  obtain ⟨a, c, cs, m, i1, i2, i3, i4, i5, rfl, ha, hc, h1, hm, q⟩ := h
  have e0 : H = upd H a (.lst (dLst c i1 i2 i3 i4 i5)) := (upd_self ha).symm
  have q0 : Q (.int 0) H := by
    have := q 0 _ (.inr rfl) ⟨i1, i2, i3, i4, i5, rfl, h1⟩
    rwa [← e0] at this
  refine ⟨_, rfl, _, _, rfl, rfl, _, rfl, iB (b := decide (m < 2)) rfl (fun e => ?_) (fun e => ?_)⟩
  · exact q0
  have hm2 : 2 ≤ m := by have := of_decide_eq_false e; omega
  clear e
  have emod : ∀ r : Int, 0 ≤ r → ∃ n : Nat, r % m = (n : Int) ∧ (n : Int) < m := fun r hr => ⟨(r % m).toNat, by have := Int.emod_nonneg r (show m ≠ 0 by omega); omega, by have := Int.emod_lt_of_pos r (show 0 < m by omega); omega⟩
  refine nx_ ?_
  dsimp only
  refine seqK (fun σ' H' => ∃ (o : Option V) (j1 j2 : Int), σ' = [some (.ref a), some (.int m), o, none, none] ∧ H' = upd H a (.lst (dLst c j1 j2 i3 i4 i5)) ∧ 0 ≤ j1) ?_ fun k => ?_
  · rintro σ' H' ⟨o, j1, j2, rfl, rfl, hj1⟩
    refine ⟨_, rfl, ix_l (v := .int j2) (sq_of upd_same) rfl ⟨_, _, rfl, rfl, _, rfl, iB (b := decide (0 < j2)) rfl (fun e => ?_) (fun e => ?_)⟩⟩
    · have hj2 : 0 < j2 := of_decide_eq_true e
      refine ⟨_, rfl, ix_l (v := .int j2) (sq_of upd_same) rfl (.inl ⟨_, rfl, _, rfl, _, _, rfl, rfl, (by show 0 < m; omega), ?_⟩)⟩
      obtain ⟨n, en, hn⟩ := emod j2 (by omega)
      refine ⟨_, rfl, ix_l (v := .int j2) (sq_of upd_same) rfl ⟨_, rfl, _, _, rfl, rfl, ⟨by omega, by omega⟩, _, rfl, set_l ⟨a, _, _, 2, rfl, rfl, upd_same, rfl, ?_⟩⟩⟩
      refine ⟨_, rfl, ?_⟩
      show Q (.int (j2 % m)) _
      rw [en, upd_upd]
      exact q n _ (.inl hn) ⟨j1, _, i3, i4, i5, rfl, hj1⟩
    · refine ⟨_, rfl, ix_l (v := .int j1) (sq_of upd_same) rfl ⟨_, rfl, ix_l (v := .ref c) (sq_of upd_same) rfl (len_l (hc _) ⟨_, _, rfl, rfl, _, rfl, iB (b := decide (j1 < ((cs.map V.int).length : Int))) rfl (fun e => ?_) (fun e => ?_)⟩)⟩⟩
      · have hlt : j1 < ((cs.map V.int).length : Int) := of_decide_eq_true e
        obtain ⟨z, hz⟩ : ∃ z, (cs.map V.int)[j1.toNat]? = some (.int z) := by
          rw [List.length_map] at hlt
          exact ⟨cs[j1.toNat]'(by omega), by rw [List.getElem?_map, List.getElem?_eq_getElem (by omega)]; rfl⟩
        refine ⟨_, rfl, ix_l (v := .ref c) (sq_of upd_same) rfl ⟨_, rfl, ix_l (v := .int j1) (sq_of upd_same) rfl (ix_l (hc _) (atZ hj1 hz) ?_)⟩⟩
        refine ⟨_, rfl, ix_l (v := .int i3) (sq_of upd_same) rfl (add_i ⟨_, rfl, set_l ⟨a, _, _, 3, rfl, rfl, upd_same, rfl, ?_⟩⟩)⟩
        rw [upd_upd]
        refine ⟨_, rfl, ⟨_, rfl, ix_l (v := .int j1) (sq_of upd_same) rfl ⟨_, _, rfl, rfl, .inl ⟨by decide, by decide⟩, add_i ⟨_, rfl, ix_l (v := .int (i3 + 1)) (sq_of upd_same) rfl ⟨_, _, rfl, fun r hr0 => ?_⟩⟩⟩⟩⟩
        refine .inl ⟨_, rfl, _, rfl, _, _, rfl, rfl, (by show 0 < m; omega), ?_⟩
        obtain ⟨n, en, hn⟩ := emod r hr0
        refine ⟨_, rfl, ix_l (v := .int (i3 + 1)) (sq_of upd_same) rfl (eq_i ⟨_, rfl, iB (b := decide (i3 + 1 = 6)) rfl (fun e => ?_) (fun e => ?_)⟩)⟩
        · refine ⟨_, rfl, set_l ⟨a, _, _, 3, rfl, rfl, upd_same, rfl, ?_⟩⟩
          rw [upd_upd]
          refine ⟨_, rfl, ix_l (v := .int j1) (sq_of upd_same) rfl (add_i ⟨_, rfl, set_l ⟨a, _, _, 1, rfl, rfl, upd_same, rfl, ?_⟩⟩)⟩
          refine ⟨_, rfl, ?_⟩
          show Q (.int (r % m)) _
          rw [en, upd_upd]
          exact q n _ (.inl hn) ⟨j1 + 1, _, _, i4, i5, rfl, by omega⟩
        · refine ⟨_, rfl, ?_⟩
          show Q (.int (r % m)) _
          rw [en]
          exact q n _ (.inl hn) ⟨j1, _, _, i4, i5, rfl, hj1⟩
      · refine ⟨_, rfl, ix_l (v := .int i4) (sq_of upd_same) rfl (add_i ⟨_, rfl, set_l ⟨a, _, _, 4, rfl, rfl, upd_same, rfl, ?_⟩⟩)⟩
        rw [upd_upd]
        refine ⟨_, rfl, ix_l (v := .int i5) (sq_of upd_same) rfl ⟨_, rfl, ix_l (v := .int (i4 + 1)) (sq_of upd_same) rfl (add_i ⟨_, _, rfl, fun r hr0 => ?_⟩)⟩⟩
        refine .inl ⟨_, rfl, _, rfl, _, _, rfl, rfl, (by show 0 < m; omega), ?_⟩
        obtain ⟨n, en, hn⟩ := emod r hr0
        show Q (.int (r % m)) _
        rw [en]
        exact q n _ (.inl hn) ⟨j1, _, _, _, i5, rfl, hj1⟩
  · have skip : ∀ o, ∃ (o' : Option V) (j1 j2 : Int), ([some (.ref a), some (.int m), o, none, none] : St) = [some (.ref a), some (.int m), o', none, none] ∧ upd H a (.lst (dLst c i1 i2 i3 i4 i5)) = upd H a (.lst (dLst c j1 j2 i3 i4 i5)) ∧ 0 ≤ j1 := fun o => ⟨o, i1, i2, rfl, rfl, h1⟩
    rw [e0]
    refine ⟨_, rfl, ix_l (v := .int i2) (sq_of upd_same) rfl (eq_i ⟨_, rfl, iB (b := decide (i2 = 0)) rfl (fun _ => ?_) (fun _ => ?_)⟩)⟩
    rotate_left
    · exact iF (k _ _ (skip none))
    refine ⟨_, rfl, ix_l (v := .int i1) (sq_of upd_same) rfl ⟨_, rfl, ix_l (v := .ref c) (sq_of upd_same) rfl (len_l (hc _) ⟨_, _, rfl, rfl, _, rfl, iB (b := decide (i1 < ((cs.map V.int).length : Int))) rfl (fun e => ?_) (fun e => ?_)⟩)⟩⟩
    rotate_left
    · exact iF (k _ _ (skip none))
    have hlt : i1 < ((cs.map V.int).length : Int) := of_decide_eq_true e
    obtain ⟨z, hz⟩ : ∃ z, (cs.map V.int)[i1.toNat]? = some (.int z) := by
      rw [List.length_map] at hlt
      exact ⟨cs[i1.toNat]'(by omega), by rw [List.getElem?_map, List.getElem?_eq_getElem (by omega)]; rfl⟩
    refine ⟨_, rfl, ix_l (v := .int i3) (sq_of upd_same) rfl (eq_i ⟨_, rfl, iB (b := decide (i3 = 0)) rfl (fun _ => ?_) (fun _ => ?_)⟩)⟩
    rotate_left
    · exact k _ _ (skip none)
    refine ⟨_, rfl, ix_l (v := .ref c) (sq_of upd_same) rfl ⟨_, rfl, ix_l (v := .int i1) (sq_of upd_same) rfl (ix_l (hc _) (atZ h1 hz) ?_)⟩⟩
    have pw1 : CPowX 10 18 ∧ CPowX 10 60 ∧ CPowX ((10 : Int) ^ (60 : Int).toNat) 64 := ⟨⟨by decide, by decide +kernel⟩, ⟨by decide, by decide +kernel⟩, ⟨by decide, by decide +kernel⟩⟩
    have pos1 : (0 : Int) < ((10 : Int) ^ (60 : Int).toNat) ^ (64 : Int).toNat := Int.pow_pos (Int.pow_pos (by decide))
    refine ⟨_, rfl, _, _, rfl, rfl, pw1.1, _, _, rfl, rfl, _, rfl, iB (b := decide ((10 : Int) ^ (18 : Int).toNat ≤ z)) rfl (fun _ => iT ?_) (fun _ => ?_)⟩
    · refine ⟨_, rfl, _, rfl, .inl ⟨_, rfl, _, _, rfl, rfl, pw1.2.1, _, _, rfl, rfl, pw1.2.2, _, _, rfl, rfl, pos1, _, rfl, set_l ⟨a, _, _, 2, rfl, rfl, upd_same, rfl, ?_⟩⟩⟩
      rw [upd_upd]
      refine ⟨_, rfl, ix_l (v := .int i1) (sq_of upd_same) rfl (add_i ⟨_, rfl, set_l ⟨a, _, _, 1, rfl, rfl, upd_same, rfl, ?_⟩⟩)⟩
      rw [upd_upd]
      exact k _ _ ⟨some (.int z), i1 + 1, _, rfl, rfl, by omega⟩
    · refine ⟨_, rfl, _, _, rfl, rfl, pw1.1, _, rfl, _, _, rfl, rfl, _, rfl, iB (b := decide (z ≤ -((10 : Int) ^ (18 : Int).toNat))) rfl (fun _ => ?_) (fun _ => ?_)⟩
      · refine ⟨_, rfl, _, rfl, .inl ⟨_, rfl, _, _, rfl, rfl, pw1.2.1, _, _, rfl, rfl, pw1.2.2, _, _, rfl, rfl, pos1, _, rfl, set_l ⟨a, _, _, 2, rfl, rfl, upd_same, rfl, ?_⟩⟩⟩
        rw [upd_upd]
        refine ⟨_, rfl, ix_l (v := .int i1) (sq_of upd_same) rfl (add_i ⟨_, rfl, set_l ⟨a, _, _, 1, rfl, rfl, upd_same, rfl, ?_⟩⟩)⟩
        rw [upd_upd]
        exact k _ _ ⟨some (.int z), i1 + 1, _, rfl, rfl, by omega⟩
      · exact k _ _ ⟨some (.int z), i1, i2, rfl, rfl, h1⟩
def sp__law_pick (K : PySem.W.Frag) : Sp := fun vs H Q _ => ∃ (a : Addr) (m : Int), vs = [.ref a, .int m] ∧ DrawAt K H a ∧ m < 1073741824 ∧ ∀ r : Nat, ((r : Int) < m ∨ r = 0) → Q (.int r) H
theorem ok__law_pick (T : Txt K mg cl) (F : FnP K "_law_pick" "_law_pick" s__law_pick [] f fd) (G__law_mix : GDef P w K mg base "_law_mix" 1 ["_law_cell", "_law_turn"] [] (sp__law_mix)) : FnOk P w K mg base CX0 2 f fd ["_law_draw_here", "_law_many"] (sp__law_pick K) := by
  refine (ok_pick0 T F G__law_mix).hide (fun vs H Q E h => ?_) (fun vs H Q E h => ?_)
  · obtain ⟨a, m, rfl, ⟨c, cs, ha, hc, hl⟩, hm, q⟩ := h
    refine ⟨a, DrΦ c, ha, ?_⟩
    rintro xs ⟨i1, i2, i3, i4, i5, rfl, h1⟩
    refine ⟨a, c, cs, m, i1, i2, i3, i4, i5, rfl, upd_same, fun o => ?_, h1, hm, fun r ys hr hy => ⟨ys, by rw [upd_upd], hy, q r hr⟩⟩
    rcases hc with (hc | ⟨o2, hc⟩) | hc
    · have ne : c ≠ a := fun z => by rw [z, ha] at hc; cases hc
      exact .inl (.inl (by rw [upd_ne ne, upd_ne ne]; exact hc))
    · have ne : c ≠ a := fun z => by rw [z, ha] at hc; cases hc
      exact .inl (.inr ⟨o2, by rw [upd_ne ne, upd_ne ne]; exact hc⟩)
    · exact .inr hc
  · obtain ⟨a, m, rfl, _⟩ := h
    rfl
end
end L2
set_option Elab.async false
set_option linter.all false
set_option maxRecDepth 100000
set_option maxHeartbeats 4000000
namespace L2
open PySem PySem.Spec PyProof.Rows Evl
section
variable {P : Program} {w : World} {K : PySem.W.Frag} {mg : Str → Option Value} {base : Heap} {f : Addr} {fd : FuncData} {cl : Cls6}
abbrev s__law_change_move : Stmt := top 79
abbrev N__law_change_move : List Str := ["_law_change_here", "_law_stage", "_law_out", "_law_spot", "_law_turn"]
theorem sc__law_change_move : FnScope N__law_change_move ["_law_change_here", "_law_stage"] (defScope s__law_change_move) := ⟨rfl, rfl, rfl, by decide +kernel, rfl, by decide +kernel, by decide +kernel⟩
def sp__law_change_move (K : PySem.W.Frag) : Sp := fun vs H Q _ => ∃ (x : V) (c : List Int) (n : Nat), vs = [x, .int n] ∧ Dp K H x (dRow c) ∧ n ≤ 8 ∧ ∀ v H', Ex H H' → Dt H' v (dRow (mvOf n c)) → Q v H'
/-- at turn i the place s, the move made up to there -/
def LmI (x : V) (c : List Int) (n : Nat) (p : Addr) (H : Hp) (i : Nat) (σ : St) (H2 : Hp) : Prop := ∃ (s m : Nat) (t : Option V) (pre : List Int), σ = [some x, some (.int n), some (.ref p), some (.int s), t] ∧ H2 = upd H p (.lst ((pre ++ rgR m s).map V.int)) ∧
  pre ++ cmv c m s = mvOf n c ∧ ((s + m = n + 1 ∧ pre.length + 1 = s ∧ i + 1 ≤ s) ∨ (m = 0 ∧ n < s ∧ pre.length = n))
theorem ok__law_change_move  (T : Txt K mg cl) (F : FnP K "_law_change_move" "_law_change_move" s__law_change_move [] f fd)  : FnOk P w K mg base CX0 1 f fd ["_law_change_here", "_law_stage"] ((sp__law_change_move K)) := by
  refine F.ok sc__law_change_move (fun vs H Q E h => ?_) (fun cdv A outer s H vs Q E hr h => ?_)
  · unfold sp__law_change_move at h; (repeat obtain ⟨_, h⟩ := h); subst_vars; rfl
  have hu := hr.units
  refine ⟨_, PSs.nox (pss_cons (ps_setLc (i := 2) (own := [("_law_spot", 3)]) rfl sc__law_change_move.nd rfl rfl (sw_true rfl rfl rfl (by decide +kernel)) (pi_range2 (by rfl) T.b_range (pa_cons pe_int (pa_cons (pe_op (op_addA (K := K)) (pv 1) pe_int) pa_nil))) (blkOk_by (N := N__law_change_move) (sc := defScope s__law_change_move) (by decide +kernel)) (fun _ _ _ _ _ => (pg_name (i := 3) sc__law_change_move.nd rfl (Or.inl rfl))) (fun _ _ _ _ _ => pts_nil) (fun _ _ _ _ _ => (pv 3)))
      (pss_cons (ps_set (i := 3) sc__law_change_move.nd rfl (Or.inl rfl) pe_int)
      (pss_cons (ps_for PassesOwn.never rfl (pi_range1 (by rfl) T.b_range (pa_cons (pv 1) pa_nil)) (pg_name (i := 4) sc__law_change_move.nd rfl (Or.inl rfl)) (pss_cons (ps_if (PW.pt (pw_and (pt_cmpR op_lt (pv 3) (pv 1) (nomark _)) (pw_and1 (pt_cmpR (op_notInA (P := P) (w := w) (K := K) hu) (pv 3) (pv 0) (by rfl))))) (pss_cons (ps_asg (pe_op (op_addA (K := K)) (pv 3) pe_int) (pg_sub (pv 2) (pe_op op_sub (pv 3) pe_int) (set_A (P := P) (w := w) (K := K) hu)))
      (pss_cons (ps_asg (pv 3) (pg_sub (pv 2) (pv 3) (set_A (P := P) (w := w) (K := K) hu)))
      (pss_one (ps_set (i := 3) sc__law_change_move.nd rfl (Or.inl rfl) (pe_op (op_addA (K := K)) (pv 3) pe_int))))) pss_nil)
      (pss_one (ps_set (i := 3) sc__law_change_move.nd rfl (Or.inl rfl) (pe_op (op_addA (K := K)) (pv 3) pe_int)))))
      (pss_one (ps_ret (pe_callTy (call_tupN (K := K)) (by rfl) T.b_tuple (by decide +kernel) (pa_cons (pv 2) pa_nil))))))), ?_⟩
  obtain ⟨x, c, n, rfl, hx, hn, q⟩ := h
  refine ⟨_, rfl, add_i ⟨1, (n : Int) + 1, rfl, ⟨by omega, by omega, by omega, by omega⟩, fun D nD => ?_⟩⟩
  refine lc_gen (walk_range (lo := 1) (n := ((n : Int) + 1 - 1).toNat)) (fun i acc H => acc = (rgR i 1).map V.int) (fun _ _ _ _ _ h => h) nD rfl (fun _ _ => trivial) ?_ ?_
  · rintro i y acc H2 H3 hi l1 hD e1 rfl ⟨rfl, rfl⟩
    refine ⟨rfl, yT ⟨_, rfl, LcN.mk (fun _ _ _ _ _ h => h) nD hD e1 (Ex.refl _) l1 (by rw [sizeLine_eq]; omega) ?_⟩⟩
    have e : ∀ (k : Nat) (s : Int), rgR (k + 1) s = rgR k s ++ [s + k] := by
      intro k
      induction k with
      | zero => intro s; simp [rgR]
      | succ k ih =>
        intro s
        rw [show rgR (k + 1 + 1) s = s :: rgR (k + 1) (s + 1) from rfl, ih (s + 1), show rgR (k + 1) s = s :: rgR k (s + 1) from rfl]
        simp
        omega
    rw [e, List.map_append]
    rfl
  · rintro ys H2 e1 hD _ rfl
    rw [show ((n : Int) + 1 - 1).toNat = n by omega] at hD
    have hxD : Dp K H2 x (dRow c) := hx.ex e1
    refine ⟨_, rfl, ?_⟩
    refine ⟨n, rfl, by omega, by omega, ?_⟩
    refine for_it (walk_range (lo := 0) (n := ((n : Int)).toNat)) (fun i σ H3 => ∃ (s m : Nat) (t : Option V) (pre : List Int), σ = [some x, some (.int n), some (.ref D), some (.int s), t] ∧ H3 = upd H2 D (.lst ((pre ++ rgR m s).map V.int)) ∧
      pre ++ cmv c m s = mvOf n c ∧ ((s + m = n + 1 ∧ pre.length + 1 = s ∧ i + 1 ≤ s) ∨ (m = 0 ∧ n < s ∧ pre.length = n))) ⟨1, n, none, [], rfl, (upd_self hD).symm, rfl, .inl ⟨by omega, rfl, by omega⟩⟩ (fun _ _ _ _ _ => trivial) ?_ ?_
    · rintro i y σ H3 H4 hi ⟨s, m, t, pre, rfl, rfl, hmv, hs⟩ ⟨rfl, rfl⟩
      have hx2 : Dp K (upd H2 D (.lst ((pre ++ rgR m s).map V.int))) x (dRow c) := Dp.tp (Tp.upd (Sft.lst hD)) _ _ (flt_row c) hxD
      refine ⟨_, rfl, _, rfl, _, _, rfl, rfl, _, rfl, iB (b := decide (s < n)) (by rw [Bool.eq_iff_iff]; simp) (fun e => ?_) (fun e => ?_)⟩
      · have hsn : s < n := of_decide_eq_true e
        rcases hs with ⟨hs, hp1, his⟩ | ⟨_, h2, _⟩
        case inr => omega
        obtain ⟨k, rfl⟩ : ∃ k, m = k + 2 := ⟨m - 2, by omega⟩
        refine ⟨_, rfl, _, rfl, ni_r hx2 ⟨_, rfl, iB (b := !c.contains (s : Int)) rfl (fun e => ?_) (fun e => ?_)⟩⟩
        · have hcc : c.contains (s : Int) = false := by simpa using e
          have lst0 : ((pre ++ rgR (k + 1 + 1) s).map V.int) = pre.map V.int ++ (.int s :: .int (s + 1) :: (rgR k (s + 2)).map V.int) := by
            simp [rgR, Int.add_assoc]
          have ln : (pre ++ rgR (k + 1 + 1) s).length = n := by rw [List.length_append, rgR_length]; omega
          have ix1 : ∀ (l : List V) (q : Nat), l.length = n → q < n → ixN l.length (q : Int) = some q := fun l q hl hq => by
            unfold ixN
            rw [hl, if_pos (by omega), if_pos (by omega)]
            simp
          refine ⟨_, rfl, add_i ⟨_, rfl, _, rfl, _, _, rfl, rfl, set_l ⟨D, _, _, s - 1, rfl, rfl, upd_same, ?_, ?_⟩⟩⟩
          · rw [show (s : Int) - 1 = ((s - 1 : Nat) : Int) by omega]
            exact ix1 _ _ (by rw [List.length_map, ln]) (by omega)
          refine ⟨_, rfl, _, rfl, _, rfl, set_l ⟨D, _, _, s, rfl, rfl, upd_same, ix1 _ _ (by rw [List.length_set, List.length_map, ln]) (by omega), ?_⟩⟩
          refine ⟨_, rfl, add_i ?_⟩
          refine ⟨_, rfl, add_i ?_⟩
          refine ⟨s + 2, k, some (.int (0 + (i : Int))), pre ++ [(s : Int) + 1, (s : Int)], ?_, ?_, ?_, ?_⟩
          · show _ = [some x, some (V.int n), some (V.ref D), some (V.int ((s + 2 : Nat) : Int)), some _]
            rw [show ((s + 2 : Nat) : Int) = (s : Int) + 1 + 1 by omega]
            rfl
          · rw [upd_upd, upd_upd, lst0]
            have e1 : s - 1 = (pre.map V.int).length := by rw [List.length_map]; omega
            congr 2
            have z := set_two (pre.map V.int) (.int s) (.int (s + 1)) (.int (s + 1)) (.int s) ((rgR k (s + 2)).map V.int)
            rw [← e1] at z
            rw [show s - 1 + 1 = s by omega] at z
            rw [z]
            simp
          · rw [← hmv, List.append_assoc]
            congr 1
            show _ = cmv c (k + 2) s
            rw [cmv]
            rw [if_neg (by rw [hcc]; simp)]
            rfl
          · by_cases h3 : k = 0
            · subst h3
              exact .inr ⟨rfl, by omega, by simp; omega⟩
            · exact .inl ⟨by omega, by simp; omega, by omega⟩
        · have hcc : c.contains (s : Int) = true := by simpa using e
          refine ⟨_, rfl, add_i ?_⟩
          refine ⟨s + 1, k + 1, _, pre ++ [(s : Int)], rfl, ?_, ?_, .inl ⟨by omega, by simp; omega, by omega⟩⟩
          · rw [List.append_assoc]; rfl
          · rw [← hmv, List.append_assoc]
            congr 1
            show _ = cmv c (k + 2) s
            rw [cmv]
            rw [if_pos hcc]
            rfl
      · have hsn : ¬ s < n := of_decide_eq_false e
        refine iF ⟨_, rfl, add_i ?_⟩
        rcases hs with ⟨hs, hp1, his⟩ | ⟨rfl, h2, h3⟩
        · by_cases h4 : m = 0
          · subst h4
            exact ⟨s + 1, 0, _, pre, rfl, rfl, hmv, .inr ⟨rfl, by omega, by omega⟩⟩
          · obtain rfl : m = 1 := by omega
            exact ⟨s + 1, 0, _, pre ++ [(s : Int)], rfl, by rw [List.append_assoc]; rfl, by rw [← hmv, List.append_assoc]; rfl, .inr ⟨rfl, by omega, by simp; omega⟩⟩
        · exact ⟨s + 1, 0, _, pre, rfl, rfl, hmv, .inr ⟨rfl, by omega, h3⟩⟩
    · rintro σ H3 ⟨s, m, t, pre, rfl, rfl, hmv, hs⟩
      obtain rfl : m = 0 := by rcases hs with ⟨h1, h2, h3⟩ | ⟨h1, _⟩ <;> omega
      have eL : pre ++ rgR 0 s = mvOf n c := by rw [← hmv]; rfl
      rw [eL]
      refine ⟨_, rfl, tup_l (sq_of upd_same) fun l o hl ho => q _ _ ?_ (.ofRow (o := o) upd_same ho)⟩
      exact (e1.mut nD).trans (Ex.new hl)
end
end L2
set_option Elab.async false
set_option linter.all false
set_option maxRecDepth 100000
set_option maxHeartbeats 4000000
namespace L2
open PySem PySem.Spec PyProof.Rows Evl
section
variable {P : Program} {w : World} {K : PySem.W.Frag} {mg : Str → Option Value} {base : Heap} {f : Addr} {fd : FuncData} {cl : Cls6}
/-- behind turn i of a change that grows in the list at p -/
def ChI (ex : List (Option V)) (n : Nat) (p : Addr) (H : Hp) (i : Nat) (σ : St) (H2 : Hp) : Prop := ∃ (s : Nat) (t : Option V) (pre : List Int), σ = ex ++ [some (.ref p), some (.int s), t] ∧ H2 = upd H p (.lst (pre.map V.int)) ∧ Tl n s pre ∧ i + 1 ≤ s ∧ pre.length ≤ i
abbrev s__law_change : Stmt := top 80
abbrev N__law_change : List Str := ["_law_draw_here", "_law_stage", "_law_kept", "_law_spot", "_law_turn"]
theorem sc__law_change : FnScope N__law_change ["_law_draw_here", "_law_stage"] (defScope s__law_change) := ⟨rfl, rfl, rfl, by decide +kernel, rfl, by decide +kernel, by decide +kernel⟩
def sp__law_change (K : PySem.W.Frag) : Sp := fun vs H Q _ => ∃ (a : Addr) (n : Nat), vs = [.ref a, .int n] ∧ DrawAt K H a ∧ 1 ≤ n ∧ n ≤ 8 ∧ ∀ v c H', Ex H H' → Mad n 1 c → Dt H' v (dRow c) → Q v H'
theorem ok__law_change  (T : Txt K mg cl) (F : FnP K "_law_change" "_law_change" s__law_change [] f fd) (G__law_pick : GDef P w K mg base "_law_pick" 2 ["_law_draw_here", "_law_many"] [] ((sp__law_pick K))) : FnOk P w K mg base CX0 3 f fd ["_law_draw_here", "_law_stage"] ((sp__law_change K)) := by
  refine F.ok sc__law_change (fun vs H Q E h => ?_) (fun cdv A outer s H vs Q E hr h => ?_)
  · unfold sp__law_change at h; (repeat obtain ⟨_, h⟩ := h); subst_vars; rfl
  have hu := hr.units
  refine ⟨_, PSs.nox (pss_cons (ps_set (i := 2) sc__law_change.nd rfl (Or.inl rfl) (pe_lst pa_nil))
      (pss_cons (ps_set (i := 3) sc__law_change.nd rfl (Or.inl rfl) pe_int)
      (pss_cons (ps_for PassesOwn.never rfl (pi_range1 (by rfl) T.b_range (pa_cons (pv 1) pa_nil)) (pg_name (i := 4) sc__law_change.nd rfl (Or.inl rfl)) (pss_cons (ps_if (PW.pt (pw_and (pt_cmpR op_lt (pv 3) (pv 1) (nomark _)) (pw_and1 (pt_cmpR op_gt (pe_g G__law_pick hr (pa_cons (pv 0) (pa_cons pe_int pa_nil))) pe_int (nomark _))))) (pss_one (ps_set (i := 3) sc__law_change.nd rfl (Or.inl rfl) (pe_op (op_addA (K := K)) (pv 3) pe_int))) (pss_one (ps_if (pt_cmpR op_le (pv 3) (pv 1) (nomark _)) (pss_one (ps_expr (pe_bm PySem.F.plainAttrs_list PySem.F.slot_list_append PySem.F.type_list_append mt_append (pv 2) (pa_cons (pv 3) pa_nil)))) pss_nil)))
      (pss_one (ps_set (i := 3) sc__law_change.nd rfl (Or.inl rfl) (pe_op (op_addA (K := K)) (pv 3) pe_int)))))
      (pss_one (ps_ret (pe_callTy (call_tupN (K := K)) (by rfl) T.b_tuple (by decide +kernel) (pa_cons (pv 2) pa_nil))))))), ?_⟩
  obtain ⟨a, n, rfl, ha, hn1, hn, q⟩ := h
  refine ⟨by show 0 ≤ sizeLine; decide, fun p hp => ⟨_, rfl, n, rfl, by omega, by omega, ?_⟩⟩
  refine for_it (walk_range (lo := 0) (n := (n : Int).toNat)) (ChI [some (.ref a), some (.int n)] n p H) ⟨1, none, [], rfl, rfl, .init hn1, by omega, Nat.le_refl _⟩ (fun _ _ _ _ _ => trivial) ?_ ?_
  · rintro i y σ H3 H4 hi ⟨s, t, pre, rfl, rfl, htl, his, hpl⟩ ⟨rfl, rfl⟩
    have hda : DrawAt K (upd H p (.lst (pre.map V.int))) a := ha.ex (Ex.new hp)
    have KEEP : ∀ (D : Ends) (hn2 : s ≤ n), D.nx = ChI [some (.ref a), some (.int n)] n p H (i + 1) → tDrop (tBM K "list" rAppend (tVar 2) (tCons (tVar 3) tNil)) { D with nx := tAsg (tOp (rAddA K) (tVar 3) (tC (.int 1))) (gName 3) D } [some (.ref a), some (.int n), some (.ref p), some (.int s), some (.int (0 + (i : Int)))] (upd H p (.lst (pre.map V.int))) := by
      intro D hn2 eD
      refine ⟨_, rfl, .inl ⟨rfl, _, sq_of upd_same⟩, _, rfl, p, _, _, rfl, rfl, upd_same, by rw [sizeLine_eq]; simp; omega, ?_⟩
      refine ⟨_, rfl, add_i ?_⟩
      show D.nx _ _
      rw [eD]
      exact ⟨s + 1, _, pre ++ [(s : Int)], rfl, by rw [upd_upd]; simp, htl.keep hn2, by omega, by simp; omega⟩
    refine ⟨_, rfl, _, rfl, _, _, rfl, rfl, _, rfl, iB (b := decide (s < n)) (by rw [Bool.eq_iff_iff]; simp) (fun e => ?_) (fun e => ?_)⟩
    · have hsn : s < n := of_decide_eq_true e
      refine ⟨_, rfl, a, 3, rfl, hda, by decide, fun r hr => ⟨_, _, rfl, rfl, _, rfl, iB (b := decide (0 < r)) (by rw [Bool.eq_iff_iff]; simp) (fun e => ?_) (fun e => ?_)⟩⟩
      · exact ⟨_, rfl, add_i ⟨_, rfl, add_i ⟨s + 2, _, pre, rfl, rfl, htl.pair hsn, by omega, by omega⟩⟩⟩
      · refine ⟨_, rfl, _, rfl, _, _, rfl, rfl, _, rfl, iP (by simp; omega) ?_⟩
        exact KEEP _ (by omega) rfl
    · have hsn : ¬ s < n := of_decide_eq_false e
      refine iF ⟨_, rfl, _, rfl, _, _, rfl, rfl, _, rfl, iB (b := decide (s ≤ n)) (by rw [Bool.eq_iff_iff]; simp) (fun e => ?_) (fun e => ?_)⟩
      · exact KEEP _ (of_decide_eq_true e) rfl
      · have := of_decide_eq_false e
        exact ⟨_, rfl, add_i ⟨s + 1, _, pre, rfl, rfl, htl.stop (by omega), by omega, by omega⟩⟩
  · rintro σ H3 ⟨s, t, pre, rfl, rfl, htl, his, hpl⟩
    refine ⟨_, rfl, tup_l (sq_of upd_same) fun l o hl ho => q _ pre _ ((Ex.new hp).trans (Ex.new hl)) (htl.mad (by omega)) (.ofRow (o := o) upd_same ho)⟩
abbrev s__law_led_change : Stmt := top 81
abbrev N__law_led_change : List Str := ["_law_draw_here", "_law_stage", "_law_low", "_law_kept", "_law_spot", "_law_turn"]
theorem sc__law_led_change : FnScope N__law_led_change ["_law_draw_here", "_law_stage", "_law_low"] (defScope s__law_led_change) := ⟨rfl, rfl, rfl, by decide +kernel, rfl, by decide +kernel, by decide +kernel⟩
def sp__law_led_change (K : PySem.W.Frag) : Sp := fun vs H Q _ => ∃ (a : Addr) (n low : Nat), vs = [.ref a, .int n, .int low] ∧ DrawAt K H a ∧ 1 ≤ n ∧ n ≤ 8 ∧ low < n ∧ ∀ v c H', Ex H H' → Mad n 1 c → Dt H' v (dRow c) → Q v H'
theorem ok__law_led_change  (T : Txt K mg cl) (F : FnP K "_law_led_change" "_law_led_change" s__law_led_change [] f fd) (G__law_pick : GDef P w K mg base "_law_pick" 2 ["_law_draw_here", "_law_many"] [] ((sp__law_pick K))) : FnOk P w K mg base CX0 3 f fd ["_law_draw_here", "_law_stage", "_law_low"] ((sp__law_led_change K)) := by
  refine F.ok sc__law_led_change (fun vs H Q E h => ?_) (fun cdv A outer s H vs Q E hr h => ?_)
  · unfold sp__law_led_change at h; (repeat obtain ⟨_, h⟩ := h); subst_vars; rfl
  have hu := hr.units
  refine ⟨_, PSs.nox (pss_cons (ps_set (i := 3) sc__law_led_change.nd rfl (Or.inl rfl) (pe_lst pa_nil))
      (pss_cons (ps_set (i := 4) sc__law_led_change.nd rfl (Or.inl rfl) pe_int)
      (pss_cons (ps_for PassesOwn.never rfl (pi_range1 (by rfl) T.b_range (pa_cons (pv 1) pa_nil)) (pg_name (i := 5) sc__law_led_change.nd rfl (Or.inl rfl)) (pss_cons (ps_if (pt_cmpR (op_eqA (K := K) hu) (pv 4) (pv 2) (nomark _)) (pss_one (ps_set (i := 4) sc__law_led_change.nd rfl (Or.inl rfl) (pe_op (op_addA (K := K)) (pv 4) pe_int))) (pss_one (ps_if (PW.pt (pw_and (pt_cmpR op_lt (pv 4) (pv 1) (nomark _)) (pw_and (pt_cmpR (op_neA (K := K) hu) (pe_op (op_addA (K := K)) (pv 4) pe_int) (pv 2) (nomark _)) (pw_and (pt_cmpR op_gt (pe_op (op_addA (K := K)) (pv 4) (pv 2)) pe_int (nomark _)) (pw_and1 (pt_cmpR op_gt (pe_g G__law_pick hr (pa_cons (pv 0) (pa_cons pe_int pa_nil))) pe_int (nomark _))))))) (pss_one (ps_set (i := 4) sc__law_led_change.nd rfl (Or.inl rfl) (pe_op (op_addA (K := K)) (pv 4) pe_int))) (pss_one (ps_if (pt_cmpR op_le (pv 4) (pv 1) (nomark _)) (pss_one (ps_expr (pe_bm PySem.F.plainAttrs_list PySem.F.slot_list_append PySem.F.type_list_append mt_append (pv 3) (pa_cons (pv 4) pa_nil)))) pss_nil)))))
      (pss_one (ps_set (i := 4) sc__law_led_change.nd rfl (Or.inl rfl) (pe_op (op_addA (K := K)) (pv 4) pe_int)))))
      (pss_one (ps_ret (pe_callTy (call_tupN (K := K)) (by rfl) T.b_tuple (by decide +kernel) (pa_cons (pv 3) pa_nil))))))), ?_⟩
  obtain ⟨a, n, low, rfl, ha, hn1, hn, hlow, q⟩ := h
  refine ⟨by show 0 ≤ sizeLine; decide, fun p hp => ⟨_, rfl, n, rfl, by omega, by omega, ?_⟩⟩
  refine for_it (walk_range (lo := 0) (n := (n : Int).toNat)) (ChI [some (.ref a), some (.int n), some (.int low)] n p H) ⟨1, none, [], rfl, rfl, .init hn1, by omega, Nat.le_refl _⟩ (fun _ _ _ _ _ => trivial) ?_ ?_
  · rintro i y σ H3 H4 hi ⟨s, t, pre, rfl, rfl, htl, his, hpl⟩ ⟨rfl, rfl⟩
    have hda : DrawAt K (upd H p (.lst (pre.map V.int))) a := ha.ex (Ex.new hp)
    have KEEP : ∀ (D : Ends), D.nx = ChI [some (.ref a), some (.int n), some (.int low)] n p H (i + 1) → tIfS (tTest (tOp (rI0 fun i j => V.bl (decide (i ≤ j))) (tVar 4) (tVar 1))) (tDrop (tBM K "list" rAppend (tVar 3) (tCons (tVar 4) tNil))) tNext { D with nx := tAsg (tOp (rAddA K) (tVar 4) (tC (.int 1))) (gName 4) D } [some (.ref a), some (.int n), some (.int low), some (.ref p), some (.int s), some (.int (0 + (i : Int)))] (upd H p (.lst (pre.map V.int))) := by
      intro D eD
      refine ⟨_, rfl, _, rfl, _, _, rfl, rfl, _, rfl, iB (b := decide (s ≤ n)) (by rw [Bool.eq_iff_iff]; simp) (fun e => ?_) (fun e => ?_)⟩
      · have hn2 : s ≤ n := of_decide_eq_true e
        refine ⟨_, rfl, .inl ⟨rfl, _, sq_of upd_same⟩, _, rfl, p, _, _, rfl, rfl, upd_same, by rw [sizeLine_eq]; simp; omega, ?_⟩
        refine ⟨_, rfl, add_i ?_⟩
        show D.nx _ _
        rw [eD]
        exact ⟨s + 1, _, pre ++ [(s : Int)], rfl, by rw [upd_upd]; simp, htl.keep hn2, by omega, by simp; omega⟩
      · have := of_decide_eq_false e
        refine ⟨_, rfl, add_i ?_⟩
        show D.nx _ _
        rw [eD]
        exact ⟨s + 1, _, pre, rfl, rfl, htl.stop (by omega), by omega, by omega⟩
    refine ⟨_, rfl, _, rfl, eq_i ⟨_, rfl, iB (b := decide (s = low)) (by rw [Bool.eq_iff_iff]; simp; omega) (fun e => ?_) (fun e => ?_)⟩⟩
    · have hsn : s = low := of_decide_eq_true e
      exact ⟨_, rfl, add_i ⟨_, rfl, add_i ⟨s + 2, _, pre, rfl, rfl, htl.pair (by omega), by omega, by omega⟩⟩⟩
    · refine ⟨_, rfl, _, rfl, _, _, rfl, rfl, _, rfl, iB (b := decide (s < n)) (by rw [Bool.eq_iff_iff]; simp) (fun e => ?_) (fun e => iF (KEEP _ rfl))⟩
      have hsn : s < n := of_decide_eq_true e
      refine ⟨_, rfl, add_i ⟨_, rfl, ne_i ⟨_, rfl, iB (b := !decide ((s : Int) + 1 = low)) rfl (fun e => ?_) (fun e => iF (KEEP _ rfl))⟩⟩⟩
      refine ⟨_, rfl, _, rfl, add_i ⟨_, _, rfl, rfl, _, rfl, iB (b := decide ((1 : Int) < s + low)) rfl (fun e => ?_) (fun e => iF (KEEP _ rfl))⟩⟩
      refine ⟨_, rfl, a, 3, rfl, hda, by decide, fun r hr => ⟨_, _, rfl, rfl, _, rfl, iB (b := decide (0 < r)) (by rw [Bool.eq_iff_iff]; simp) (fun e => ?_) (fun e => KEEP _ rfl)⟩⟩
      exact ⟨_, rfl, add_i ⟨_, rfl, add_i ⟨s + 2, _, pre, rfl, rfl, htl.pair hsn, by omega, by omega⟩⟩⟩
  · rintro σ H3 ⟨s, t, pre, rfl, rfl, htl, his, hpl⟩
    refine ⟨_, rfl, tup_l (sq_of upd_same) fun l o hl ho => q _ pre _ ((Ex.new hp).trans (Ex.new hl)) (htl.mad (by omega)) (.ofRow (o := o) upd_same ho)⟩
abbrev s__law_kept_last : Stmt := top 85
abbrev N__law_kept_last : List Str := ["_law_draw_here", "_law_stage", "_law_kept", "_law_spot"]
theorem sc__law_kept_last : FnScope N__law_kept_last ["_law_draw_here", "_law_stage"] (defScope s__law_kept_last) := ⟨rfl, rfl, rfl, by decide +kernel, rfl, by decide +kernel, by decide +kernel⟩
def sp__law_kept_last (K : PySem.W.Frag) : Sp := fun vs H Q _ => ∃ (a : Addr) (n : Nat), vs = [.ref a, .int n] ∧ DrawAt K H a ∧ 1 ≤ n ∧ n ≤ 8 ∧ ∀ v c H', Ex H H' → Mad n 1 c → Dt H' v (dRow c) → Q v H'
theorem ok__law_kept_last  (T : Txt K mg cl) (F : FnP K "_law_kept_last" "_law_kept_last" s__law_kept_last [] f fd) (G__law_led_change : GDef P w K mg base "_law_led_change" 3 ["_law_draw_here", "_law_stage", "_law_low"] [] ((sp__law_led_change K))) : FnOk P w K mg base CX0 4 f fd ["_law_draw_here", "_law_stage"] ((sp__law_kept_last K)) := by
  refine F.ok sc__law_kept_last (fun vs H Q E h => ?_) (fun cdv A outer s H vs Q E hr h => ?_)
  · unfold sp__law_kept_last at h; (repeat obtain ⟨_, h⟩ := h); subst_vars; rfl
  have hu := hr.units
  refine ⟨_, PSs.nox (pss_cons (ps_setLc (i := 2) (own := [("_law_spot", 3)]) rfl sc__law_kept_last.nd rfl rfl (sw_true rfl rfl rfl (by decide +kernel)) (pi_tup (pe_g G__law_led_change hr (pa_cons (pv 0) (pa_cons (pv 1) (pa_cons pe_int pa_nil))))) (blkOk_by (N := N__law_kept_last) (sc := defScope s__law_kept_last) (by decide +kernel)) (fun _ _ _ _ _ => (pg_name (i := 3) sc__law_kept_last.nd rfl (Or.inl rfl))) (fun _ _ _ _ _ => pts_nil) (fun _ _ _ _ _ => (pe_op op_sub (pe_op (op_addA (K := K)) (pv 1) pe_int) (pv 3))))
      (pss_one (ps_ret (pe_callTy (call_tupN (K := K)) (by rfl) T.b_tuple (by decide +kernel) (pa_cons (pe_callB cr_sorted (by rfl) T.b_sorted (by decide +kernel) (pa_cons (pv 2) pa_nil)) pa_nil))))), ?_⟩
  obtain ⟨a, n, rfl, ha, hn1, hn, q⟩ := h
  refine ⟨_, rfl, _, rfl, a, n, 0, rfl, ha, hn1, hn, by omega, fun x c H1 e1 hc hx => ?_⟩
  obtain ⟨b, hb, eb⟩ : ∃ b, x = .ref b ∧ SqT K H1 b (c.map V.int) := by
    obtain ⟨b, rfl, h⟩ := (hx.dp (K := K)).row
    exact ⟨b, rfl, h⟩
  subst hb
  refine ⟨b, rfl, ⟨_, eb⟩, fun D nD => ?_⟩
  refine lc_gen (walk_tup (xs := c.map V.int)) (fun i acc H => acc = ((c.take i).map fun j => (n : Int) + 1 - j).map V.int) (fun _ _ _ _ _ h => h) nD rfl (fun H2 e => ex_t e eb) ?_ ?_
  · rintro i z acc H2 H3 hi l hD e2 rfl ⟨rfl, hz⟩
    obtain ⟨j, hj, rfl⟩ := mapInt_get hz
    refine ⟨rfl, yT ⟨_, rfl, add_i ⟨_, rfl, _, _, rfl, rfl, ?_⟩⟩⟩
    refine LcN.mk (fun _ _ _ _ _ h => h) nD hD e2 (Ex.refl _) l (by rw [sizeLine_eq]; have := hc.len; simp at hi; omega) ?_
    rw [List.take_succ, hj]
    simp
  · rintro ys H2 e2 hD _ rfl
    rw [List.take_of_length_le (by rw [List.length_map]; exact Nat.le_refl _)] at hD
    refine ⟨_, rfl, D, _, rfl, sq_of hD, by have := hc.len; simp; omega, fun ns p hpm hpw hp => ?_⟩
    refine tup_l (sq_of upd_same) fun l o hl ho => q _ ns _ (((e1.trans e2).trans (Ex.new hp)).trans (Ex.new hl)) (sorted_mirror hc hpm hpw) (.ofRow (o := o) upd_same ho)
abbrev s__law_row : Stmt := top 82
abbrev N__law_row : List Str := ["_law_draw_here", "_law_stage", "_law_left", "_law_out", "_law_turn", "_law_bell"]
theorem sc__law_row : FnScope N__law_row ["_law_draw_here", "_law_stage"] (defScope s__law_row) := ⟨rfl, rfl, rfl, by decide +kernel, rfl, by decide +kernel, by decide +kernel⟩
def sp__law_row (K : PySem.W.Frag) : Sp := fun vs H Q _ => ∃ (a : Addr) (n : Nat), vs = [.ref a, .int n] ∧ DrawAt K H a ∧ n ≤ 8 ∧ ∀ v r H', Ex H H' → Pm n r → Dt H' v (dRow r) → Q v H'
theorem rgR_snoc (k : Nat) : ∀ s : Int, rgR (k + 1) s = rgR k s ++ [s + k] := by
  induction k with
  | zero => intro s; simp [rgR]
  | succ k ih =>
    intro s
    rw [show rgR (k + 1 + 1) s = s :: rgR (k + 1) (s + 1) from rfl, ih (s + 1), show rgR (k + 1) s = s :: rgR k (s + 1) from rfl]
    simp
    omega
theorem ok__law_row  (T : Txt K mg cl) (F : FnP K "_law_row" "_law_row" s__law_row [] f fd) (G__law_pick : GDef P w K mg base "_law_pick" 2 ["_law_draw_here", "_law_many"] [] ((sp__law_pick K))) : FnOk P w K mg base CX0 3 f fd ["_law_draw_here", "_law_stage"] ((sp__law_row K)) := by
  refine F.ok sc__law_row (fun vs H Q E h => ?_) (fun cdv A outer s H vs Q E hr h => ?_)
  · unfold sp__law_row at h; (repeat obtain ⟨_, h⟩ := h); subst_vars; rfl
  have hu := hr.units
  refine ⟨_, PSs.nox (pss_cons (ps_setLc (i := 2) (own := [("_law_bell", 5)]) rfl sc__law_row.nd rfl rfl (sw_true rfl rfl rfl (by decide +kernel)) (pi_range2 (by rfl) T.b_range (pa_cons pe_int (pa_cons (pe_op (op_addA (K := K)) (pv 1) pe_int) pa_nil))) (blkOk_by (N := N__law_row) (sc := defScope s__law_row) (by decide +kernel)) (fun _ _ _ _ _ => (pg_name (i := 5) sc__law_row.nd rfl (Or.inl rfl))) (fun _ _ _ _ _ => pts_nil) (fun _ _ _ _ _ => (pv 5)))
      (pss_cons (ps_set (i := 3) sc__law_row.nd rfl (Or.inl rfl) (pe_lst pa_nil))
      (pss_cons (ps_for PassesOwn.never rfl (pi_range1 (by rfl) T.b_range (pa_cons (pv 1) pa_nil)) (pg_name (i := 4) sc__law_row.nd rfl (Or.inl rfl)) (pss_one (ps_expr (pe_bm PySem.F.plainAttrs_list PySem.F.slot_list_append PySem.F.type_list_append mt_append (pv 3) (pa_cons (pe_bm PySem.F.plainAttrs_list PySem.F.slot_list_pop PySem.F.type_list_pop mt_popAt (pv 2) (pa_cons (pe_g G__law_pick hr (pa_cons (pv 0) (pa_cons (pe_callB (call_lenA (P := P) (w := w) (K := K)) (by rfl) T.b_len (by decide +kernel) (pa_cons (pv 2) pa_nil)) pa_nil))) pa_nil)) pa_nil)))))
      (pss_one (ps_ret (pe_callTy (call_tupN (K := K)) (by rfl) T.b_tuple (by decide +kernel) (pa_cons (pv 3) pa_nil))))))), ?_⟩
  obtain ⟨a, n, rfl, ha, hn, q⟩ := h
  refine ⟨_, rfl, add_i ⟨1, (n : Int) + 1, rfl, ⟨by omega, by omega, by omega, by omega⟩, fun D nD => ?_⟩⟩
  refine lc_gen (walk_range (lo := 1) (n := ((n : Int) + 1 - 1).toNat)) (fun i acc H => acc = (rgR i 1).map V.int) (fun _ _ _ _ _ h => h) nD rfl (fun _ _ => trivial) ?_ ?_
  · rintro i y acc H2 H3 hi l1 hD e1 rfl ⟨rfl, rfl⟩
    refine ⟨rfl, yT ⟨_, rfl, LcN.mk (fun _ _ _ _ _ h => h) nD hD e1 (Ex.refl _) l1 (by rw [sizeLine_eq]; omega) ?_⟩⟩
    rw [rgR_snoc, List.map_append]
    rfl
  · rintro ys H2 e1 hD _ rfl
    rw [show ((n : Int) + 1 - 1).toNat = n by omega] at hD
    refine ⟨by show 0 ≤ sizeLine; decide, fun p hp => ⟨_, rfl, n, rfl, by omega, by omega, ?_⟩⟩
    have npD : p ≠ D := fun z => by rw [z, hD] at hp; cases hp
    have nH : H p = none := fresh_back e1 hp
    refine for_it (walk_range (lo := 0) (n := (n : Int).toNat)) (fun i σ H3 => ∃ (b t : Option V) (l o : List Int), σ = [some (.ref a), some (.int n), some (.ref D), some (.ref p), t, b] ∧ H3 = upd (upd H2 D (.lst (l.map V.int))) p (.lst (o.map V.int)) ∧ (o ++ l).Perm (rgR n 1) ∧ l.length = n - i)
      ⟨none, none, rgR n 1, [], rfl, by rw [upd_self hD]; rfl, List.Perm.refl _, by rw [rgR_length]; rfl⟩ (fun _ _ _ _ _ => trivial) ?_ ?_
    · rintro i y σ H3 H4 hi ⟨b, t, l, o, rfl, rfl, hpm, hl⟩ ⟨rfl, rfl⟩
      have hpD : upd (upd H2 D (.lst (l.map V.int))) p (.lst (o.map V.int)) D = some (.lst (l.map V.int)) := by rw [upd_ne (Ne.symm npD), upd_same]
      have hlo : o.length + l.length = n := by have := hpm.length_eq; rw [List.length_append, rgR_length] at this; exact this
      have hda : DrawAt K (upd (upd H2 D (.lst (l.map V.int))) p (.lst (o.map V.int))) a := ha.ex ((e1.mut nD).mut nH)
      refine ⟨_, rfl, .inl ⟨rfl, _, sq_of upd_same⟩, ?_⟩
      refine ⟨_, rfl, .inl ⟨rfl, _, sq_of hpD⟩, _, rfl, _, rfl, len_l (sq_of hpD) ⟨a, _, rfl, hda, by simp; omega, fun r hr => ?_⟩⟩
      have hrl : r < l.length := by rw [List.length_map] at hr; omega
      have hy : (l.map V.int)[r]? = some (.int (l[r]'hrl)) := by rw [List.getElem?_map, List.getElem?_eq_getElem hrl]; rfl
      refine ⟨D, l.map V.int, (r : Int), r, .int (l[r]'hrl), rfl, rfl, hpD, by omega, by omega, by rw [List.length_map]; exact seqIndex_of (by omega) (by omega), hy, ?_⟩
      refine ⟨p, o.map V.int, _, rfl, rfl, by rw [upd_ne npD, upd_same], by rw [sizeLine_eq]; simp; omega, ?_⟩
      refine ⟨b, some (.int (0 + (i : Int))), l.eraseIdx r, o ++ [l[r]'hrl], rfl, ?_, ?_, by rw [List.length_eraseIdx_of_lt hrl]; omega⟩
      · have e3 : (l.map V.int).eraseIdx r = (l.eraseIdx r).map V.int := eraseIdx_mapW _ _ _
        rw [e3, List.map_append]
        funext z
        by_cases z1 : z = p
        · subst z1; rw [upd_same, upd_same]; rfl
        · rw [upd_ne z1, upd_ne z1]
          by_cases z2 : z = D
          · subst z2; rw [upd_same, upd_same]
          · rw [upd_ne z2, upd_ne z1, upd_ne z2, upd_ne z2]
      · have := eraseIdx_perm (List.getElem?_eq_getElem hrl)
        refine List.Perm.trans ?_ hpm
        rw [List.append_assoc]
        exact List.Perm.append_left o this.symm
    · rintro σ H3 ⟨b, t, l, o, rfl, rfl, hpm, hl⟩
      have l0 : l = [] := List.eq_nil_of_length_eq_zero (by omega)
      subst l0
      rw [List.append_nil] at hpm
      refine ⟨_, rfl, tup_l (sq_of upd_same) fun x ob hx ho => q _ o _ ?_ (.of_perm hpm) (.ofRow (o := ob) upd_same ho)⟩
      exact ((e1.mut nD).mut nH).trans (Ex.new hx)
end
end L2
set_option Elab.async false
set_option linter.all false
set_option maxRecDepth 100000
set_option maxHeartbeats 4000000
namespace L2
open PySem PySem.Spec PyProof.Rows Evl
/-- one letter, a word of letters -/
def ch (c : Nat) : Str := ⟨#[c]⟩
def tx (us : List Nat) : Str := ⟨us.toArray⟩
theorem tx_length (us : List Nat) : (tx us).length = us.length := by simp [tx, Str.length]
theorem tx_ch (us : List Nat) (c : Nat) : tx us ++ ch c = tx (us ++ [c]) := by
  show (⟨us.toArray ++ #[c]⟩ : Str) = ⟨(us ++ [c]).toArray⟩
  congr 1
  simp
theorem tx_inj {a b : List Nat} (h : tx a = tx b) : a = b := by
  have : a.toArray = b.toArray := congrArg Str.cps h
  simpa using this
theorem ch_inj {a b : Nat} (h : ch a = ch b) : a = b := by
  have := tx_inj (a := [a]) (b := [b]) h
  simpa using this
/-- data of changes, calls, worlds -/
def dCh (l : List (List Int)) : PyData := .tuple (l.map dRow)
def dCall (c : Nat × Nat × List (List Int)) : PyData := .tuple [.str (ch c.1), .int c.2.1, dCh c.2.2]
def dCalls (l : List (Nat × Nat × List (List Int))) : PyData := .tuple (l.map dCall)
def dWorld (d : Wd) : PyData := .tuple [.int d.st, dCh d.plain, dCalls d.calls]
section
variable {P : Program} {w : World} {K : PySem.W.Frag} {mg : Str → Option Value} {base : Heap} {f : Addr} {fd : FuncData} {cl : Cls6}
abbrev s__law_letter : Stmt := top 83
abbrev N__law_letter : List Str := ["_law_draw_here", "_law_used", "_law_pool", "_law_letter_here"]
theorem sc__law_letter : FnScope N__law_letter ["_law_draw_here", "_law_used"] (defScope s__law_letter) := ⟨rfl, rfl, rfl, by decide +kernel, rfl, by decide +kernel, by decide +kernel⟩
def pool : List Nat := [97,98,99,100,101,102,103,104,105,106,107,108,109,110,111,113,114,115,116,117,118,119,120,121,122]
theorem pool_ok : ("abcdefghijklmnoqrstuvwxyz" : Str).cps = pool.toArray := by decide +kernel
theorem pool_in : ∀ c ∈ pool, 97 ≤ c ∧ c ≤ 122 ∧ c ≠ 112 := by decide
def sp__law_letter (K : PySem.W.Frag) : Sp := fun vs H Q _ => ∃ (a : Addr) (us : List Nat), vs = [.ref a, .str (tx us)] ∧ DrawAt K H a ∧ us.length ≤ 10 ∧ ∀ c H', Ex H H' → 97 ≤ c → c ≤ 122 → c ≠ 112 → c ∉ us → Q (.str (ch c)) H'
theorem filter_ne (us : List Nat) (h : us.length ≤ 10) : 0 < (pool.filter fun c => !decide (c ∈ us)).length := by
  have h1 : (pool.filter fun c => decide (c ∈ us)).length ≤ us.length := nodup_sub (List.Pairwise.filter _ (by decide : pool.Nodup)) fun x hx => by simpa using (List.mem_filter.mp hx).2
  have h2 : (pool.filter fun c => decide (c ∈ us)).length + (pool.filter fun c => !decide (c ∈ us)).length = pool.length := by
    rw [← List.length_append]
    exact (List.filter_append_perm (fun c => decide (c ∈ us)) pool).length_eq
  have h3 : pool.length = 25 := rfl
  omega
theorem ok__law_letter  (T : Txt K mg cl) (F : FnP K "_law_letter" "_law_letter" s__law_letter [] f fd) (G__law_pick : GDef P w K mg base "_law_pick" 2 ["_law_draw_here", "_law_many"] [] ((sp__law_pick K))) : FnOk P w K mg base CX0 3 f fd ["_law_draw_here", "_law_used"] ((sp__law_letter K)) := by
  refine F.ok sc__law_letter (fun vs H Q E h => ?_) (fun cdv A outer s H vs Q E hr h => ?_)
  · unfold sp__law_letter at h; (repeat obtain ⟨_, h⟩ := h); subst_vars; rfl
  have hu := hr.units
  refine ⟨_, PSs.nox (pss_cons (ps_setLc (i := 2) (own := [("_law_letter_here", 3)]) rfl sc__law_letter.nd rfl rfl (sw_true rfl rfl rfl (by decide +kernel)) (pi_str pe_str) (blkOk_by (N := N__law_letter) (sc := defScope s__law_letter) (by decide +kernel)) (fun _ _ _ _ _ => (pg_name (i := 3) sc__law_letter.nd rfl (Or.inl rfl))) (fun _ _ _ _ _ => (pts_one (pt_cmpR (op_notInA (P := P) (w := w) (K := K) hu) (pv 3) (pv 1) (by rfl)))) (fun _ _ _ _ _ => (pv 3)))
      (pss_one (ps_ret (pe_ix (ix_A (P := P) (w := w) (K := K) hu) (pv 2) (pe_g G__law_pick hr (pa_cons (pv 0) (pa_cons (pe_callB (call_lenA (P := P) (w := w) (K := K)) (by rfl) T.b_len (by decide +kernel) (pa_cons (pv 2) pa_nil)) pa_nil))) (fun _ _ => rfl))))), ?_⟩
  obtain ⟨a, us, rfl, ha, hu5, q⟩ := h
  refine ⟨_, rfl, fun D nD => ?_⟩
  refine lc_gen (walk_str (z := "abcdefghijklmnoqrstuvwxyz")) (fun i acc H => acc = ((pool.take i).filter fun c => !decide (c ∈ us)).map fun c => V.str (ch c)) (fun _ _ _ _ _ h => h) nD rfl (fun _ _ => trivial) ?_ ?_
  · rintro i y acc H2 H3 hi l1 hD e1 rfl ⟨rfl, c, hc, rfl⟩
    rw [pool_ok] at hc
    have hc2 : pool[i]? = some c := by simpa using hc
    have h25 : ("abcdefghijklmnoqrstuvwxyz" : Str).cps.size = 25 := by decide +kernel
    refine ⟨rfl, ⟨_, rfl, _, rfl, ni_s (b := !decide (c ∈ us)) ?_ ⟨_, rfl, ?_⟩⟩⟩
    · have := StrLaws.found_one (tx us) c
      have e2 : decide (c ∈ (tx us).cps.toList) = decide (c ∈ us) := decide_eq_decide.mpr (by simp [tx])
      rw [e2] at this
      rw [← this, Bool.not_not]
    · refine iB (b := !decide (c ∈ us)) rfl (fun e => ⟨_, rfl, ?_⟩) (fun e => ?_)
      · refine LcN.mk (fun _ _ _ _ _ h => h) nD hD e1 (Ex.refl _) l1 (by rw [sizeLine_eq]; omega) ?_
        rw [List.take_succ, hc2, List.filter_append, List.map_append]
        simp only [Option.toList, List.filter_cons, e]
        rfl
      · refine LcP.mk hD e1 (Ex.refl _) l1 ?_
        rw [List.take_succ, hc2, List.filter_append, List.map_append]
        simp only [Option.toList, List.filter_cons, e]
        simp
  · rintro ys H2 e1 hD _ rfl
    rw [show (pool.take ("abcdefghijklmnoqrstuvwxyz" : Str).cps.size) = pool by rw [show ("abcdefghijklmnoqrstuvwxyz" : Str).cps.size = 25 by decide +kernel]; rfl] at hD
    have hpos := filter_ne us hu5
    have hle : (pool.filter fun c => !decide (c ∈ us)).length ≤ 25 := List.length_filter_le _ _
    refine ⟨_, rfl, _, rfl, _, rfl, len_l (sq_of hD) ⟨a, _, rfl, ha.ex e1, by simp only [List.length_map]; omega, fun r hr => ?_⟩⟩
    have hrl : r < (pool.filter fun c => !decide (c ∈ us)).length := by rw [List.length_map] at hr; omega
    obtain ⟨c, hc⟩ : ∃ c, (pool.filter fun c => !decide (c ∈ us))[r]? = some c := ⟨_, List.getElem?_eq_getElem hrl⟩
    have hm := List.mem_of_getElem? hc
    rw [List.mem_filter] at hm
    have hb := pool_in c hm.1
    refine ix_l (v := .str (ch c)) (sq_of hD) (atN (by rw [List.getElem?_map, hc]; rfl)) ?_
    exact q c _ e1 hb.1 hb.2.1 hb.2.2 (by simpa using hm.2)
/-- a list of changes at p -/
def ChL (H : Hp) (p : Addr) (n : Nat) (cs : List (List Int)) : Prop := ∃ vs, H p = some (.lst vs) ∧ DtAll H vs (cs.map dRow) ∧ ∀ c ∈ cs, Mad n 1 c
theorem ChL.ex {H H' : Hp} {p : Addr} {n : Nat} {cs : List (List Int)} (h : ChL H p n cs) (e : Ex H H') : ChL H' p n cs := by
  obtain ⟨vs, h1, h2, h3⟩ := h
  exact ⟨vs, e _ _ h1, h2.ex e, h3⟩
/-- l.append(change), the list p not known to H0 -/
theorem ChL.app {H0 H H' : Hp} {p : Addr} {n : Nat} {cs : List (List Int)} {c : List Int} {v : V} {R : Hp → Prop} (h : ChL H p n cs) (e0 : Ex H0 H) (np : H0 p = none) (e : Ex H H') (hc : Mad n 1 c) (hv : Dt H' v (dRow c)) (hl : cs.length ≤ 100)
    (q : ∀ H2, Ex H0 H2 → ChL H2 p n (cs ++ [c]) → R H2) : rAppend (.ref p) [v] H' fun _ H2 => R H2 := by
  obtain ⟨vs, h1, h2, h3⟩ := h
  have hlen := h2.len
  rw [List.length_map] at hlen
  refine ⟨p, vs, v, rfl, rfl, e _ _ h1, by rw [sizeLine_eq]; omega, q _ ((e0.trans e).mut np) ⟨_, upd_same, ?_, ?_⟩⟩
  · rw [List.map_append]
    exact ((h2.ex e).snoc hv).tp (Tp.upd (Sft.lst (e _ _ h1)))
  · intro x hx
    rcases List.mem_append.mp hx with hx | hx
    · exact h3 x hx
    · rw [List.mem_singleton.mp hx]; exact hc
abbrev s__law_hunting : Stmt := top 84
abbrev N__law_hunting : List Str := ["_law_draw_here", "_law_stage", "_law_plain", "_law_low"]
theorem sc__law_hunting : FnScope N__law_hunting ["_law_draw_here", "_law_stage"] (defScope s__law_hunting) := ⟨rfl, rfl, rfl, by decide +kernel, rfl, by decide +kernel, by decide +kernel⟩
def sp__law_hunting (K : PySem.W.Frag) : Sp := fun vs H Q _ => ∃ (a : Addr) (n : Nat), vs = [.ref a, .int n] ∧ DrawAt K H a ∧ 2 ≤ n ∧ n ≤ 5 ∧ ∀ p cs H', Ex H H' → ChL H' p n cs → 1 ≤ cs.length → cs.length ≤ 12 → Q (.ref p) H'
theorem ok__law_hunting  (T : Txt K mg cl) (F : FnP K "_law_hunting" "_law_hunting" s__law_hunting [] f fd) (G__law_led_change : GDef P w K mg base "_law_led_change" 3 ["_law_draw_here", "_law_stage", "_law_low"] [] ((sp__law_led_change K))) (G__law_kept_last : GDef P w K mg base "_law_kept_last" 4 ["_law_draw_here", "_law_stage"] [] ((sp__law_kept_last K))) : FnOk P w K mg base CX0 5 f fd ["_law_draw_here", "_law_stage"] ((sp__law_hunting K)) := by
  refine F.ok sc__law_hunting (fun vs H Q E h => ?_) (fun cdv A outer s H vs Q E hr h => ?_)
  · unfold sp__law_hunting at h; (repeat obtain ⟨_, h⟩ := h); subst_vars; rfl
  have hu := hr.units
  refine ⟨_, PSs.nox (pss_cons (ps_setLc (i := 2) (own := [("_law_low", 3)]) rfl sc__law_hunting.nd rfl rfl (sw_true rfl rfl rfl (by decide +kernel)) (pi_range2 (by rfl) T.b_range (pa_cons pe_int (pa_cons (pv 1) pa_nil))) (blkOk_by (N := N__law_hunting) (sc := defScope s__law_hunting) (by decide +kernel)) (fun _ _ _ _ _ => (pg_name (i := 3) sc__law_hunting.nd rfl (Or.inl rfl))) (fun _ _ _ _ _ => pts_nil) (fun _ _ _ _ _ => (pe_g G__law_led_change hr (pa_cons (pv 0) (pa_cons (pv 1) (pa_cons (pv 3) pa_nil))))))
      (pss_cons (ps_expr (pe_bm PySem.F.plainAttrs_list PySem.F.slot_list_append PySem.F.type_list_append mt_append (pv 2) (pa_cons (pe_g G__law_kept_last hr (pa_cons (pv 0) (pa_cons (pv 1) pa_nil))) pa_nil)))
      (pss_cons (ps_for PassesOwn.never rfl (pi_range3 (by rfl) T.b_range (pa_cons (pe_op op_sub (pv 1) pe_int) (pa_cons pe_int (pa_cons (pe_un un_neg pe_int) pa_nil)))) (pg_name (i := 3) sc__law_hunting.nd rfl (Or.inl rfl)) (pss_one (ps_expr (pe_bm PySem.F.plainAttrs_list PySem.F.slot_list_append PySem.F.type_list_append mt_append (pv 2) (pa_cons (pe_g G__law_led_change hr (pa_cons (pv 0) (pa_cons (pv 1) (pa_cons (pv 3) pa_nil)))) pa_nil)))))
      (pss_cons (ps_expr (pe_bm PySem.F.plainAttrs_list PySem.F.slot_list_append PySem.F.type_list_append mt_append (pv 2) (pa_cons (pe_g G__law_led_change hr (pa_cons (pv 0) (pa_cons (pv 1) (pa_cons pe_int pa_nil)))) pa_nil)))
      (pss_one (ps_ret (pv 2))))))), ?_⟩
  obtain ⟨a, n, rfl, ha, hn1, hn, q⟩ := h
  refine ⟨_, rfl, 1, n, rfl, ⟨by omega, by omega, by omega, by omega⟩, fun D nD => ?_⟩
  refine lc_gen (walk_range (lo := 1) (n := ((n : Int) - 1).toNat)) (fun i acc H => ∃ cs : List (List Int), cs.length = i ∧ DtAll H acc (cs.map dRow) ∧ ∀ c ∈ cs, Mad n 1 c) (fun i acc H H' t ⟨cs, h1, h2, h3⟩ => ⟨cs, h1, h2.tp t, h3⟩) nD ⟨[], rfl, .nil, fun _ h => by cases h⟩ (fun _ _ => trivial) ?_ ?_
  · rintro i y acc H2 H3 hi l1 hD e1 ⟨cs, hcl, hcd, hcm⟩ ⟨rfl, rfl⟩
    refine ⟨rfl, yT ⟨_, rfl, _, rfl, _, rfl, a, n, 1 + i, by simp, ha.ex e1, by omega, by omega, by omega, fun v c H4 e4 hc hv => ?_⟩⟩
    refine LcN.mk (fun i acc H H' t ⟨cs, h1, h2, h3⟩ => ⟨cs, h1, h2.tp t, h3⟩) nD hD e1 e4 l1 (by rw [sizeLine_eq]; omega) ⟨cs ++ [c], by simp [hcl], ?_, ?_⟩
    · rw [List.map_append]
      exact (hcd.ex e4).snoc hv
    · intro x hx
      rcases List.mem_append.mp hx with hx | hx
      · exact hcm x hx
      · rw [List.mem_singleton.mp hx]; exact hc
  · rintro ys H2 e1 hD _ ⟨cs, hcl, hcd, hcm⟩
    have hL : ChL H2 D n cs := ⟨ys, hD, hcd, hcm⟩
    refine ⟨_, rfl, .inl ⟨rfl, _, sq_of hD⟩, _, rfl, _, rfl, a, n, rfl, ha.ex e1, by omega, by omega, fun v c H3 e3 hc hv => ?_⟩
    refine hL.app e1 nD e3 hc hv (by omega) fun H4 e4 hL4 => ?_
    refine ⟨_, rfl, _, _, rfl, rfl, _, rfl, (n : Int) - 1, 0, -1, n - 1, rfl, (by have := RgC.neg (i := (n : Int) - 1) (j := 0) (by omega) (by omega) (by omega) (by omega); rwa [show ((n : Int) - 1 - 0).toNat = n - 1 by omega] at this), ?_⟩
    refine for_it (walk_rangeC (lo := (n : Int) - 1) (c := -1) (n := n - 1)) (fun i σ H5 => ∃ (t : Option V) (cs2 : List (List Int)), σ = [some (.ref a), some (.int n), some (.ref D), t] ∧ Ex H H5 ∧ ChL H5 D n cs2 ∧ cs2.length = n + i)
      ⟨_, cs ++ [c], rfl, e4, hL4, by simp [hcl]; omega⟩ (fun _ _ _ _ _ => trivial) ?_ ?_
    · rintro i y σ H5 H6 hi ⟨t, cs2, rfl, e5, hL5, hl5⟩ ⟨rfl, rfl⟩
      refine ⟨_, rfl, .inl ⟨rfl, _, sq_of hL5.choose_spec.1⟩, _, rfl, _, rfl, _, rfl, a, n, n - 1 - i, ?_, ha.ex e5, by omega, by omega, by omega, fun v c H7 e7 hc hv => ?_⟩
      · rw [show ((n - 1 - i : Nat) : Int) = (n : Int) - 1 + (i : Int) * -1 by omega]; rfl
      · exact hL5.app e5 nD e7 hc hv (by omega) fun H8 e8 hL8 => ⟨_, _, rfl, e8, hL8, by simp; omega⟩
    · rintro σ H5 ⟨t, cs2, rfl, e5, hL5, hl5⟩
      refine ⟨_, rfl, .inl ⟨rfl, _, sq_of hL5.choose_spec.1⟩, _, rfl, _, rfl, a, n, 0, rfl, ha.ex e5, by omega, by omega, by omega, fun v c H7 e7 hc hv => ?_⟩
      exact hL5.app e5 nD e7 hc hv (by omega) fun H8 e8 hL8 => ⟨_, rfl, q D _ H8 e8 hL8 (by simp) (by simp; omega)⟩
end
end L2
set_option Elab.async false
set_option linter.all false
set_option maxRecDepth 100000
set_option maxHeartbeats 4000000
namespace L2
open PySem PySem.Spec PyProof.Rows Evl
theorem gN_ {i : Nat} {v : V} {σ : L2.St} {H : Hp} {Q : L2.St → Hp → Prop} (h : Q (σ.set i (some v)) H) : gName i v σ H Q := h
/-- a list of data at p -/
def DL (H : Hp) (p : Addr) (ds : List PyData) : Prop := ∃ vs, H p = some (.lst vs) ∧ DtAll H vs ds
theorem DL.ex {H H' : Hp} {p : Addr} {ds : List PyData} (h : DL H p ds) (e : Ex H H') : DL H' p ds := by
  obtain ⟨vs, h1, h2⟩ := h
  exact ⟨vs, e _ _ h1, h2.ex e⟩
theorem DL.sq {K : PySem.W.Frag} {H : Hp} {p : Addr} {ds : List PyData} (h : DL H p ds) : ∃ xs, SqL K H p xs := by
  obtain ⟨vs, h1, h2⟩ := h
  exact ⟨vs, sq_of h1⟩
/-- l.append(v), the list p not known to H0 -/
theorem DL.app {H0 H : Hp} {p : Addr} {ds : List PyData} {d : PyData} {v : V} {R : Hp → Prop} (h : DL H p ds) (e0 : Ex H0 H) (np : H0 p = none) (hv : Dt H v d) (hl : ds.length ≤ 100000)
    (q : ∀ H2, Ex H0 H2 → DL H2 p (ds ++ [d]) → Tp H H2 → (∀ b, b ≠ p → H2 b = H b) → R H2) : rAppend (.ref p) [v] H fun _ H2 => R H2 := by
  obtain ⟨vs, h1, h2⟩ := h
  have hlen := h2.len
  refine ⟨p, vs, v, rfl, rfl, h1, by rw [sizeLine_eq]; omega, q _ (e0.mut np) ⟨_, upd_same, (h2.snoc hv).tp (Tp.upd (Sft.lst h1))⟩ (Tp.upd (Sft.lst h1)) fun b hb => upd_ne hb⟩
theorem ChL.dl {H : Hp} {p : Addr} {n : Nat} {cs : List (List Int)} (h : ChL H p n cs) : DL H p (cs.map dRow) := by
  obtain ⟨vs, h1, h2, _⟩ := h
  exact ⟨vs, h1, h2⟩
/-- the calls made so far, letters us -/
structure CsI (n k : Nat) (H : Hp) (p : Addr) (cs : List (Nat × Nat × List (List Int))) : Prop where
  dl : DL H p (cs.map dCall)
  ok : ∀ c ∈ cs, CallOk n k c
  nd : (cs.map (·.1)).Nodup
theorem CsI.ex {n k : Nat} {H H' : Hp} {p : Addr} {cs : List (Nat × Nat × List (List Int))} (h : CsI n k H p cs) (e : Ex H H') : CsI n k H' p cs := ⟨h.dl.ex e, h.ok, h.nd⟩
theorem CsI.app {n k : Nat} {H0 H : Hp} {p : Addr} {cs : List (Nat × Nat × List (List Int))} {c : Nat × Nat × List (List Int)} {v : V} {R : Hp → Prop} (h : CsI n k H p cs) (e0 : Ex H0 H) (np : H0 p = none) (hv : Dt H v (dCall c)) (hl : cs.length ≤ 10) (hc : CallOk n k c) (hn : c.1 ∉ cs.map (·.1))
    (q : ∀ H2, Ex H0 H2 → CsI n k H2 p (cs ++ [c]) → (∀ b, b ≠ p → H2 b = H b) → Tp H H2 → R H2) : rAppend (.ref p) [v] H fun _ H2 => R H2 := by
  refine h.dl.app e0 np hv (by simp; omega) fun H2 e2 h2 t2 k2 => q H2 e2 ⟨by rw [List.map_append]; exact h2, fun x hx => ?_, ?_⟩ k2 t2
  · rcases List.mem_append.mp hx with hx | hx
    · exact h.ok x hx
    · rw [List.mem_singleton.mp hx]; exact hc
  · rw [List.map_append, List.nodup_append]
    refine ⟨h.nd, by simp, ?_⟩
    intro a ha b hb e
    rw [List.map_singleton, List.mem_singleton] at hb
    rw [e, hb] at ha
    exact hn ha
section
variable {P : Program} {w : World} {K : PySem.W.Frag} {mg : Str → Option Value} {base : Heap} {f : Addr} {fd : FuncData} {cl : Cls6}
/-- what a comprehension of changes holds -/
def ChsΨ (n : Nat) : Nat → List V → Hp → Prop := fun i acc H => ∃ cs : List (List Int), cs.length = i ∧ DtAll H acc (cs.map dRow) ∧ ∀ c ∈ cs, Mad n 1 c
theorem chs_tp {n : Nat} : TpS (ChsΨ n) := fun i acc H H' t ⟨cs, h1, h2, h3⟩ => ⟨cs, h1, h2.tp t, h3⟩
theorem chs_snoc {n i : Nat} {acc : List V} {H H' : Hp} {v : V} {c : List Int} (h : ChsΨ n i acc H) (e : Ex H H') (hc : Mad n 1 c) (hv : Dt H' v (dRow c)) : ChsΨ n (i + 1) (acc ++ [v]) H' := by
  obtain ⟨cs, h1, h2, h3⟩ := h
  refine ⟨cs ++ [c], by simp [h1], ?_, fun x hx => ?_⟩
  · rw [List.map_append]
    exact (h2.ex e).snoc hv
  · rcases List.mem_append.mp hx with hx | hx
    · exact h3 x hx
    · rw [List.mem_singleton.mp hx]; exact hc
abbrev s__law_wide_world : Stmt := top 87
abbrev N__law_wide_world : List Str := ["_law_draw_here", "_law_stage", "_law_plain", "_law_calls", "_law_used", "_law_turn", "_law_letter_here", "_law_many", "_law_at", "_law_k"]
theorem sc__law_wide_world : FnScope N__law_wide_world ["_law_draw_here"] (defScope s__law_wide_world) := ⟨rfl, rfl, rfl, by decide +kernel, rfl, by decide +kernel, by decide +kernel⟩
def sp__law_wide_world (K : PySem.W.Frag) : Sp := fun vs H Q _ => ∃ (a : Addr), vs = [.ref a] ∧ DrawAt K H a ∧ ∀ v d H', Ex H H' → WdOk d → Dt H' v (dWorld d) → Q v H'
theorem ok__law_wide_world  (T : Txt K mg cl) (F : FnP K "_law_wide_world" "_law_wide_world" s__law_wide_world [] f fd) (G__law_pick : GDef P w K mg base "_law_pick" 2 ["_law_draw_here", "_law_many"] [] ((sp__law_pick K))) (G__law_change : GDef P w K mg base "_law_change" 3 ["_law_draw_here", "_law_stage"] [] ((sp__law_change K))) (G__law_letter : GDef P w K mg base "_law_letter" 3 ["_law_draw_here", "_law_used"] [] ((sp__law_letter K))) : FnOk P w K mg base CX0 4 f fd ["_law_draw_here"] ((sp__law_wide_world K)) := by
  refine F.ok sc__law_wide_world (fun vs H Q E h => ?_) (fun cdv A outer s H vs Q E hr h => ?_)
  · unfold sp__law_wide_world at h; (repeat obtain ⟨_, h⟩ := h); subst_vars; rfl
  have hu := hr.units
  refine ⟨_, PSs.nox (pss_cons (ps_set (i := 1) sc__law_wide_world.nd rfl (Or.inr rfl) (pe_op (op_addA (K := K)) pe_int (pe_g G__law_pick hr (pa_cons (pv 0) (pa_cons pe_int pa_nil)))))
      (pss_cons (ps_setLc (i := 2) (own := [("_law_turn", 5)]) rfl sc__law_wide_world.nd rfl rfl (sw_true rfl rfl rfl (by decide +kernel)) (pi_range1 (by rfl) T.b_range (pa_cons (pe_op (op_addA (K := K)) pe_int (pe_g G__law_pick hr (pa_cons (pv 0) (pa_cons pe_int pa_nil)))) pa_nil)) (blkOk_by (N := N__law_wide_world) (sc := defScope s__law_wide_world) (by decide +kernel)) (fun _ _ _ _ _ => (pg_name (i := 5) sc__law_wide_world.nd rfl (Or.inl rfl))) (fun _ _ _ _ _ => pts_nil) (fun _ _ _ _ _ => (pe_g G__law_change hr (pa_cons (pv 0) (pa_cons (pv 1) pa_nil)))))
      (pss_cons (ps_set (i := 3) sc__law_wide_world.nd rfl (Or.inl rfl) (pe_lst pa_nil))
      (pss_cons (ps_set (i := 4) sc__law_wide_world.nd rfl (Or.inl rfl) pe_str)
      (pss_cons (ps_for PassesOwn.never rfl (pi_range1 (by rfl) T.b_range (pa_cons (pe_g G__law_pick hr (pa_cons (pv 0) (pa_cons pe_int pa_nil))) pa_nil)) (pg_name (i := 5) sc__law_wide_world.nd rfl (Or.inl rfl)) (pss_cons (ps_set (i := 6) sc__law_wide_world.nd rfl (Or.inl rfl) (pe_g G__law_letter hr (pa_cons (pv 0) (pa_cons (pv 4) pa_nil))))
      (pss_cons (ps_set (i := 4) sc__law_wide_world.nd rfl (Or.inl rfl) (pe_op (op_addA (K := K)) (pv 4) (pv 6)))
      (pss_cons (ps_set (i := 7) sc__law_wide_world.nd rfl (Or.inl rfl) (pe_op (op_addA (K := K)) pe_int (pe_g G__law_pick hr (pa_cons (pv 0) (pa_cons (pe_callB (call_lenA (P := P) (w := w) (K := K)) (by rfl) T.b_len (by decide +kernel) (pa_cons (pv 2) pa_nil)) pa_nil)))))
      (pss_cons (ps_set (i := 8) sc__law_wide_world.nd rfl (Or.inl rfl) (pe_g G__law_pick hr (pa_cons (pv 0) (pa_cons (pe_op (op_addA (K := K)) (pe_op op_sub (pe_callB (call_lenA (P := P) (w := w) (K := K)) (by rfl) T.b_len (by decide +kernel) (pa_cons (pv 2) pa_nil)) (pv 7)) pe_int) pa_nil))))
      (pss_one (ps_expr (pe_bm PySem.F.plainAttrs_list PySem.F.slot_list_append PySem.F.type_list_append mt_append (pv 3) (pa_cons (pe_tupN (pa_cons (pv 6) (pa_cons (pv 8) (pa_cons (pe_callTy (call_tupN (K := K)) (by rfl) T.b_tuple (by decide +kernel) (pa_cons (pe_lc (own := [("_law_k", 9)]) rfl sc__law_wide_world.nd (pi_range1 (by rfl) T.b_range (pa_cons (pv 7) pa_nil)) (blkOk_by (N := N__law_wide_world) (sc := defScope s__law_wide_world) (by decide +kernel)) (fun _ _ _ _ _ => (pg_name (i := 9) sc__law_wide_world.nd rfl (Or.inl rfl))) (fun _ _ _ _ _ => pts_nil) (fun _ _ _ _ _ => (pe_g G__law_change hr (pa_cons (pv 0) (pa_cons (pv 1) pa_nil))))) pa_nil)) pa_nil)))) pa_nil)))))))))
      (pss_one (ps_ret (pe_tupN (pa_cons (pv 1) (pa_cons (pe_callTy (call_tupN (K := K)) (by rfl) T.b_tuple (by decide +kernel) (pa_cons (pv 2) pa_nil)) (pa_cons (pe_callTy (call_tupN (K := K)) (by rfl) T.b_tuple (by decide +kernel) (pa_cons (pv 3) pa_nil)) pa_nil))))))))))), ?_⟩
  obtain ⟨a, rfl, ha, q⟩ := h
  refine ⟨_, rfl, a, 6, rfl, ha, by decide, fun r hr => add_i ?_⟩
  obtain ⟨n, hn, hn3, hn8⟩ : ∃ n : Nat, (3 : Int) + (r : Int) = (n : Int) ∧ 3 ≤ n ∧ n ≤ 8 := ⟨3 + r, by omega, by omega, by omega⟩
  rw [hn]
  refine ⟨_, rfl, a, 12, rfl, ha, by decide, fun r1 hr1 => add_i ⟨(1 : Int) + r1, rfl, by omega, by omega, fun D nD => ?_⟩⟩
  refine lc_gen (walk_range (lo := 0) (n := ((1 : Int) + r1).toNat)) (ChsΨ n) chs_tp nD ⟨[], rfl, .nil, fun _ h => by cases h⟩ (fun _ _ => trivial) ?_ ?_
  · rintro i y acc H2 H3 hi l1 hD e1 hp ⟨rfl, rfl⟩
    refine ⟨rfl, yT ⟨_, rfl, _, rfl, a, n, rfl, ha.ex e1, by omega, by omega, fun v c H4 e4 hc hv => ?_⟩⟩
    exact LcN.mk chs_tp nD hD e1 e4 l1 (by rw [sizeLine_eq]; omega) (chs_snoc hp e4 hc hv)
  rintro ys H2 e1 hD _ ⟨cs, hcl, hcd, hcm⟩
  have hPL : ys.length = cs.length := by have := hcd.len; rw [List.length_map] at this; exact this
  refine ⟨by show 0 ≤ sizeLine; decide, fun p hp => ?_⟩
  have npD : p ≠ D := fun z => by rw [z, hD] at hp; cases hp
  have nH : H p = none := fresh_back e1 hp
  have e2 : Ex H (upd H2 p (.lst [])) := e1.trans (Ex.new hp)
  refine ⟨_, rfl, a, 6, rfl, ha.ex e2, by decide, fun r2 hr2 => ⟨r2, rfl, by omega, by omega, ?_⟩⟩
  refine for_it (walk_range (lo := 0) (n := (r2 : Int).toNat)) (fun i σ H5 => ∃ (us : List Nat) (x1 x2 x3 x4 x5 : Option V) (cl : List (Nat × Nat × List (List Int))), σ = [some (.ref a), some (.int n), some (.ref D), some (.ref p), some (.str (tx us)), x1, x2, x3, x4, x5] ∧ us = cl.map (·.1) ∧ Ex H H5 ∧ H5 D = some (.lst ys) ∧ DtAll H5 ys (cs.map dRow) ∧ CsI n cs.length H5 p cl ∧ cl.length = i)
    ⟨[], none, none, none, none, none, [], rfl, rfl, e2, by rw [upd_ne (Ne.symm npD)]; exact hD, hcd.ex (Ex.new hp), ⟨⟨[], upd_same, .nil⟩, (fun _ h => by cases h), List.nodup_nil⟩, rfl⟩ (fun _ _ _ _ _ => trivial) ?_ ?_
  · rintro i y σ H5 H6 hi ⟨us, x1, x2, x3, x4, x5, cl, rfl, hus, e5, hD5, hds5, hcs, hci⟩ ⟨rfl, rfl⟩
    refine ⟨_, rfl, _, rfl, a, us, rfl, ha.ex e5, by rw [hus]; simp; omega, fun c H7 e7 hc1 hc2 hc3 hc4 => ?_⟩
    refine ⟨_, rfl, _, rfl, add_s (by rw [tx_length, hus]; show _ + 1 ≤ _; rw [sizeLine_eq]; simp; omega) ?_⟩
    rw [tx_ch]
    have hD7 := e7 _ _ hD5
    refine ⟨_, rfl, _, rfl, len_l (sq_of hD7) ⟨a, _, rfl, (ha.ex e5).ex e7, by rw [hPL]; omega, fun r3 hr3 => add_i ?_⟩⟩
    refine ⟨_, rfl, _, rfl, len_l (sq_of hD7) ⟨_, rfl, _, _, rfl, rfl, add_i ⟨a, _, rfl, (ha.ex e5).ex e7, by rw [hPL]; omega, fun r4 hr4 => ?_⟩⟩⟩
    rw [hPL] at hr3 hr4
    refine ⟨_, rfl, .inl ⟨rfl, hcs.dl.ex e7 |>.sq⟩, _, rfl, _, rfl, ?_⟩
    refine ⟨_, rfl, (1 : Int) + r3, rfl, by omega, by omega, fun D2 nD2 => ?_⟩
    refine lc_gen (walk_range (lo := 0) (n := ((1 : Int) + r3).toNat)) (ChsΨ n) chs_tp nD2 ⟨[], rfl, .nil, fun _ h => by cases h⟩ (fun _ _ => trivial) ?_ ?_
    · rintro i y acc H8 H9 hi l1 hD2 e8 hp ⟨rfl, rfl⟩
      refine ⟨rfl, yT ⟨_, rfl, _, rfl, a, n, rfl, ((ha.ex e5).ex e7).ex e8, by omega, by omega, fun v c H4 e4 hc hv => ?_⟩⟩
      exact LcN.mk chs_tp nD2 hD2 e8 e4 l1 (by rw [sizeLine_eq]; omega) (chs_snoc hp e4 hc hv)
    rintro zs H8 e8 hD8 _ ⟨ms, hml, hmd, hmm⟩
    refine tup_d (sq_of hD8) hmd fun v9 H9 e9 hv9 => ?_
    refine tupN_d (ds := [.str (ch c), .int r4, dCh ms]) (.cons (.str _) (.cons (.int _) (.cons hv9 .nil))) (by show 3 ≤ 100; decide) fun v10 H10 e10 hv10 => ?_
    have e11 : Ex H6 H10 := ((e7.trans e8).trans e9).trans e10
    refine CsI.app (c := (c, r4, ms)) (hcs.ex e11) (e5.trans e11) nH hv10 (by omega) ⟨hc1, hc2, hc3, ?_, ?_, hmm⟩ (hus ▸ hc4) fun H12 e12 hcs12 k12 t12 => ?_
    · intro e; have e' : ms = [] := e; rw [e'] at hml; simp at hml; omega
    · show r4 + ms.length ≤ cs.length
      omega
    · refine ⟨_, _, _, _, _, _, cl ++ [(c, r4, ms)], rfl, by rw [List.map_append, hus]; rfl, e12, by rw [k12 _ (Ne.symm npD)]; exact e11 _ _ hD5, (hds5.ex e11).tp t12, hcs12, by simp [hci]⟩
  · rintro σ H5 ⟨us, x1, x2, x3, x4, x5, cl, rfl, hus, e5, hD5, hds5, ⟨⟨zs, hz, hzd⟩, hok, hnd⟩, hci⟩
    refine ⟨_, rfl, _, rfl, tup_d (sq_of hD5) hds5 fun v6 H6 e6 hv6 => ⟨_, rfl, tup_d (sq_of (e6 _ _ hz)) (hzd.ex e6) fun v7 H7 e7 hv7 => ?_⟩⟩
    refine tupN_d (ds := [.int n, dCh cs, dCalls cl]) (.cons (.int _) (.cons (hv6.ex e7) (.cons hv7 .nil))) (by show 3 ≤ 100; decide) fun v8 H8 e8 hv8 => ?_
    exact q v8 ⟨n, cs, cl⟩ H8 (((e5.trans e6).trans e7).trans e8) ⟨hn3, hn8, by show 1 ≤ cs.length; omega, by show cs.length ≤ 12; omega, hcm, by show cl.length ≤ 5; omega, hok, hnd⟩ hv8
abbrev s__law_world : Stmt := top 86
abbrev N__law_world : List Str := ["_law_draw_here", "_law_least", "_law_kind", "_law_stage", "_law_hunts", "_law_plain", "_law_calls", "_law_used", "_law_turn", "_law_letter_here", "_law_many", "_law_at", "_law_k"]
theorem sc__law_world : FnScope N__law_world ["_law_draw_here", "_law_least"] (defScope s__law_world) := ⟨rfl, rfl, rfl, by decide +kernel, rfl, by decide +kernel, by decide +kernel⟩
def sp__law_world (K : PySem.W.Frag) : Sp := fun vs H Q _ => ∃ (a : Addr) (l : Nat), vs = [.ref a, .int l] ∧ DrawAt K H a ∧ l ≤ 1 ∧ ∀ v d H', Ex H H' → WdOk d → Dt H' v (dWorld d) → Q v H'
/-- the plain lead stands, the calls grow -/
def WrI (a : Addr) (n : Nat) (hu : Bool) (D p : Addr) (ys : List V) (cs : List (List Int)) (l r : Int) (H : Hp) (i : Nat) (σ : St) (H5 : Hp) : Prop :=
  ∃ (us : List Nat) (x1 x2 x3 x4 x5 : Option V) (cl : List (Nat × Nat × List (List Int))), σ = [some (.ref a), some (.int l), some (.int r), some (.int n), some (.bl hu), some (.ref D), some (.ref p), some (.str (tx us)), x1, x2, x3, x4, x5] ∧ us = cl.map (·.1) ∧ Ex H H5 ∧ H5 D = some (.lst ys) ∧ DtAll H5 ys (cs.map dRow) ∧ CsI n cs.length H5 p cl ∧ cl.length = i
theorem ok__law_world  (T : Txt K mg cl) (F : FnP K "_law_world" "_law_world" s__law_world [] f fd) (G__law_pick : GDef P w K mg base "_law_pick" 2 ["_law_draw_here", "_law_many"] [] ((sp__law_pick K))) (G__law_hunting : GDef P w K mg base "_law_hunting" 5 ["_law_draw_here", "_law_stage"] [] ((sp__law_hunting K))) (G__law_change : GDef P w K mg base "_law_change" 3 ["_law_draw_here", "_law_stage"] [] ((sp__law_change K))) (G__law_letter : GDef P w K mg base "_law_letter" 3 ["_law_draw_here", "_law_used"] [] ((sp__law_letter K))) (G__law_led_change : GDef P w K mg base "_law_led_change" 3 ["_law_draw_here", "_law_stage", "_law_low"] [] ((sp__law_led_change K))) : FnOk P w K mg base CX0 6 f fd ["_law_draw_here", "_law_least"] ((sp__law_world K)) := by
  refine F.ok sc__law_world (fun vs H Q E h => ?_) (fun cdv A outer s H vs Q E hr h => ?_)
  · unfold sp__law_world at h; (repeat obtain ⟨_, h⟩ := h); subst_vars; rfl
  have hu := hr.units
  refine ⟨_, PSs.nox (pss_cons (ps_set (i := 2) sc__law_world.nd rfl (Or.inl rfl) (pe_g G__law_pick hr (pa_cons (pv 0) (pa_cons pe_int pa_nil))))
      (pss_cons (ps_set (i := 3) sc__law_world.nd rfl (Or.inr rfl) (pe_ix (ix_A (P := P) (w := w) (K := K) hu) (pe_lst (pa_cons pe_int (pa_cons pe_int (pa_cons pe_int (pa_cons pe_int (pa_cons pe_int (pa_cons pe_int pa_nil))))))) (pv 2) (fun _ _ => rfl)))
      (pss_cons (ps_set (i := 4) sc__law_world.nd rfl (Or.inl rfl) (pe_cmpR (op_inA (P := P) (w := w) (K := K) hu) (pv 2) (pe_tupN (pa_cons pe_int (pa_cons pe_int (pa_cons pe_int pa_nil)))) (by rfl)))
      (pss_cons (ps_if (pt_truR (tru_A (P := P) (w := w) (K := K)) (pv 4)) (pss_one (ps_set (i := 5) sc__law_world.nd rfl (Or.inl rfl) (pe_g G__law_hunting hr (pa_cons (pv 0) (pa_cons (pv 3) pa_nil))))) (pss_one (ps_setLc (i := 5) (own := [("_law_turn", 8)]) rfl sc__law_world.nd rfl rfl (sw_true rfl rfl rfl (by decide +kernel)) (pi_range1 (by rfl) T.b_range (pa_cons (pe_op (op_addA (K := K)) pe_int (pe_g G__law_pick hr (pa_cons (pv 0) (pa_cons pe_int pa_nil)))) pa_nil)) (blkOk_by (N := N__law_world) (sc := defScope s__law_world) (by decide +kernel)) (fun _ _ _ _ _ => (pg_name (i := 8) sc__law_world.nd rfl (Or.inl rfl))) (fun _ _ _ _ _ => pts_nil) (fun _ _ _ _ _ => (pe_g G__law_change hr (pa_cons (pv 0) (pa_cons (pv 3) pa_nil)))))))
      (pss_cons (ps_set (i := 6) sc__law_world.nd rfl (Or.inl rfl) (pe_lst pa_nil))
      (pss_cons (ps_set (i := 7) sc__law_world.nd rfl (Or.inl rfl) pe_str)
      (pss_cons (ps_for PassesOwn.never rfl (pi_range1 (by rfl) T.b_range (pa_cons (pe_callB (call_max2 rfl) (by rfl) T.b_max (by decide +kernel) (pa_cons (pv 1) (pa_cons (pe_ix (ix_A (P := P) (w := w) (K := K) hu) (pe_lst (pa_cons pe_int (pa_cons pe_int (pa_cons pe_int (pa_cons pe_int (pa_cons pe_int (pa_cons pe_int pa_nil))))))) (pe_g G__law_pick hr (pa_cons (pv 0) (pa_cons pe_int pa_nil))) (fun _ _ => rfl)) pa_nil))) pa_nil)) (pg_name (i := 8) sc__law_world.nd rfl (Or.inl rfl)) (pss_cons (ps_set (i := 9) sc__law_world.nd rfl (Or.inl rfl) (pe_g G__law_letter hr (pa_cons (pv 0) (pa_cons (pv 7) pa_nil))))
      (pss_cons (ps_set (i := 7) sc__law_world.nd rfl (Or.inl rfl) (pe_op (op_addA (K := K)) (pv 7) (pv 9)))
      (pss_one (ps_if (pt_truR (tru_A (P := P) (w := w) (K := K)) (pv 4)) (pss_one (ps_expr (pe_bm PySem.F.plainAttrs_list PySem.F.slot_list_append PySem.F.type_list_append mt_append (pv 6) (pa_cons (pe_tupN (pa_cons (pv 9) (pa_cons (pe_op op_sub (pe_callB (call_lenA (P := P) (w := w) (K := K)) (by rfl) T.b_len (by decide +kernel) (pa_cons (pv 5) pa_nil)) pe_int) (pa_cons (pe_tupN (pa_cons (pe_g G__law_led_change hr (pa_cons (pv 0) (pa_cons (pv 3) (pa_cons pe_int pa_nil)))) pa_nil)) pa_nil)))) pa_nil)))) (pss_cons (ps_set (i := 10) sc__law_world.nd rfl (Or.inl rfl) (pe_op (op_addA (K := K)) pe_int (pe_g G__law_pick hr (pa_cons (pv 0) (pa_cons (pe_callB (call_lenA (P := P) (w := w) (K := K)) (by rfl) T.b_len (by decide +kernel) (pa_cons (pv 5) pa_nil)) pa_nil)))))
      (pss_cons (ps_set (i := 11) sc__law_world.nd rfl (Or.inl rfl) (pe_g G__law_pick hr (pa_cons (pv 0) (pa_cons (pe_op (op_addA (K := K)) (pe_op op_sub (pe_callB (call_lenA (P := P) (w := w) (K := K)) (by rfl) T.b_len (by decide +kernel) (pa_cons (pv 5) pa_nil)) (pv 10)) pe_int) pa_nil))))
      (pss_one (ps_expr (pe_bm PySem.F.plainAttrs_list PySem.F.slot_list_append PySem.F.type_list_append mt_append (pv 6) (pa_cons (pe_tupN (pa_cons (pv 9) (pa_cons (pv 11) (pa_cons (pe_callTy (call_tupN (K := K)) (by rfl) T.b_tuple (by decide +kernel) (pa_cons (pe_lc (own := [("_law_k", 12)]) rfl sc__law_world.nd (pi_range1 (by rfl) T.b_range (pa_cons (pv 10) pa_nil)) (blkOk_by (N := N__law_world) (sc := defScope s__law_world) (by decide +kernel)) (fun _ _ _ _ _ => (pg_name (i := 12) sc__law_world.nd rfl (Or.inl rfl))) (fun _ _ _ _ _ => pts_nil) (fun _ _ _ _ _ => (pe_g G__law_change hr (pa_cons (pv 0) (pa_cons (pv 3) pa_nil))))) pa_nil)) pa_nil)))) pa_nil)))))))))))
      (pss_one (ps_ret (pe_tupN (pa_cons (pv 3) (pa_cons (pe_callTy (call_tupN (K := K)) (by rfl) T.b_tuple (by decide +kernel) (pa_cons (pv 5) pa_nil)) (pa_cons (pe_callTy (call_tupN (K := K)) (by rfl) T.b_tuple (by decide +kernel) (pa_cons (pv 6) pa_nil)) pa_nil))))))))))))), ?_⟩
  obtain ⟨a, l, rfl, ha, hl1, q⟩ := h
  refine ⟨_, rfl, a, 6, rfl, ha, by decide, fun r hr => ?_⟩
  obtain ⟨n, hu0, hn, hh, hn3, hn5, hh4⟩ : ∃ (n : Nat) (b : Bool), ([4, 4, 3, 4, 5, 4] : List Int)[r]? = some (n : Int) ∧ ([0, 4, 5] : List Int).contains (r : Int) = b ∧ 3 ≤ n ∧ n ≤ 5 ∧ (b = true → 4 ≤ n) := by
    have : r = 0 ∨ r = 1 ∨ r = 2 ∨ r = 3 ∨ r = 4 ∨ r = 5 := by omega
    rcases this with rfl | rfl | rfl | rfl | rfl | rfl
    · exact ⟨4, true, rfl, by decide, by decide, by decide, by decide⟩
    · exact ⟨4, false, rfl, by decide, by decide, by decide, by decide⟩
    · exact ⟨3, false, rfl, by decide, by decide, by decide, by decide⟩
    · exact ⟨4, false, rfl, by decide, by decide, by decide, by decide⟩
    · exact ⟨5, true, rfl, by decide, by decide, by decide, by decide⟩
    · exact ⟨4, true, rfl, by decide, by decide, by decide, by decide⟩
  refine ⟨by show 6 ≤ sizeLine; decide, fun p1 np1 => ⟨_, rfl, ix_l (v := .int n) (xs := ([4, 4, 3, 4, 5, 4] : List Int).map V.int) (sq_of upd_same) (atN (by rw [List.getElem?_map, hn]; rfl)) ?_⟩⟩
  have e1 : Ex H (upd H p1 (.lst (([4, 4, 3, 4, 5, 4] : List Int).map V.int))) := Ex.new np1
  refine ⟨_, rfl, tupN_d (ds := ([0, 4, 5] : List Int).map PyData.int) (.cons (.int _) (.cons (.int _) (.cons (.int _) .nil))) (by show 3 ≤ 100; decide) fun v2 H2 e2 hv2 => in_r (r := [0, 4, 5]) hv2.dp ?_⟩
  rw [hh]
  have e12 : Ex H H2 := e1.trans e2
  clear e1 e2 hv2 np1
  refine gN_ ?_
  dsimp only
  refine seqK (fun σ' H' => ∃ (D : Addr) (ys : List V) (cs : List (List Int)), σ' = [some (.ref a), some (.int l), some (.int r), some (.int n), some (.bl hu0), some (.ref D), none, none, none, none, none, none, none] ∧ Ex H H' ∧ H' D = some (.lst ys) ∧ DtAll H' ys (cs.map dRow) ∧ (∀ c ∈ cs, Mad n 1 c) ∧ 1 ≤ cs.length ∧ cs.length ≤ 12) ?_ fun k => ?_
  · rintro σ' H3 ⟨D, ys, cs, rfl, e3, hD, hcd, hcm, h1, h12⟩
    have hPL : ys.length = cs.length := by have := hcd.len; rw [List.length_map] at this; exact this
    refine ⟨by show 0 ≤ sizeLine; decide, fun p hp => ?_⟩
    have npD : p ≠ D := fun z => by rw [z, hD] at hp; cases hp
    have nH : H p = none := fresh_back e3 hp
    have e4 : Ex H (upd H3 p (.lst [])) := e3.trans (Ex.new hp)
    refine ⟨_, rfl, by show 6 ≤ sizeLine; decide, fun p2 np2 => ⟨_, rfl, a, 6, rfl, (ha.ex e4).ex (Ex.new np2), by decide, fun r2 hr2 => ?_⟩⟩
    have e5 : Ex (upd H3 p (.lst [])) (upd (upd H3 p (.lst [])) p2 (.lst (([1, 2, 1, 0, 2, 3] : List Int).map V.int))) := Ex.new np2
    obtain ⟨m, hm, hm3⟩ : ∃ m : Nat, ([1, 2, 1, 0, 2, 3] : List Int)[r2]? = some (m : Int) ∧ m ≤ 3 := by
      have : r2 = 0 ∨ r2 = 1 ∨ r2 = 2 ∨ r2 = 3 ∨ r2 = 4 ∨ r2 = 5 := by omega
      rcases this with rfl | rfl | rfl | rfl | rfl | rfl
      · exact ⟨1, rfl, by decide⟩
      · exact ⟨2, rfl, by decide⟩
      · exact ⟨1, rfl, by decide⟩
      · exact ⟨0, rfl, by decide⟩
      · exact ⟨2, rfl, by decide⟩
      · exact ⟨3, rfl, by decide⟩
    refine ix_l (v := .int m) (xs := ([1, 2, 1, 0, 2, 3] : List Int).map V.int) (sq_of upd_same) (atN (by rw [List.getElem?_map, hm]; rfl)) ⟨_, _, rfl, ?_⟩
    obtain ⟨z, hz, hz3⟩ : ∃ z : Int, (if (m : Int) > (l : Int) then (m : Int) else (l : Int)) = z ∧ 0 ≤ z ∧ z ≤ 3 := ⟨_, rfl, by split <;> omega, by split <;> omega⟩
    rw [hz]
    refine ⟨z, rfl, by omega, by omega, ?_⟩
    refine for_it (walk_range (lo := 0) (n := z.toNat)) (WrI a n hu0 D p ys cs l r H)
      ⟨[], none, none, none, none, none, [], rfl, rfl, e4.trans e5, e5 _ _ (by rw [upd_ne (Ne.symm npD)]; exact hD), (hcd.ex (Ex.new hp)).ex e5, ⟨⟨[], e5 _ _ upd_same, .nil⟩, (fun _ h => by cases h), List.nodup_nil⟩, rfl⟩ (fun _ _ _ _ _ => trivial) ?_ ?_
    · rintro i y σ H5 H6 hi ⟨us, x1, x2, x3, x4, x5, cl, rfl, hus, e5, hD5, hds5, hcs, hci⟩ ⟨rfl, rfl⟩
      refine ⟨_, rfl, _, rfl, a, us, rfl, ha.ex e5, by rw [hus]; simp; omega, fun c H7 e7 hc1 hc2 hc3 hc4 => ?_⟩
      refine ⟨_, rfl, _, rfl, add_s (by rw [tx_length, hus]; show _ + 1 ≤ _; rw [sizeLine_eq]; simp; omega) ?_⟩
      rw [tx_ch]
      have hD7 := e7 _ _ hD5
      refine ⟨_, rfl, tru_v (k := hu0) rfl (iB (b := hu0) rfl (fun e => ?_) (fun e => ?_))⟩
      · refine ⟨_, rfl, .inl ⟨rfl, hcs.dl.ex e7 |>.sq⟩, _, rfl, _, rfl, len_l (sq_of hD7) ⟨_, _, rfl, rfl, ?_⟩⟩
        refine ⟨_, rfl, _, rfl, a, n, 0, rfl, (ha.ex e5).ex e7, by omega, by omega, by omega, fun v8 x8 H8 e8 hx8 hv8 => ?_⟩
        refine tupN_d (ds := [dRow x8]) (.cons hv8 .nil) (by show 1 ≤ 100; decide) fun v9 H9 e9 hv9 => ?_
        have hy1 : 1 ≤ ys.length := by omega
        refine tupN_d (ds := [.str (ch c), .int ((ys.length : Int) - 1), dCh [x8]]) (.cons (.str _) (.cons (.int _) (.cons hv9 .nil))) (by show 3 ≤ 100; decide) fun v10 H10 e10 hv10 => ?_
        have e11 : Ex H6 H10 := ((e7.trans e8).trans e9).trans e10
        rw [show ((ys.length : Nat) : Int) - 1 = ((ys.length - 1 : Nat) : Int) by omega] at hv10
        refine CsI.app (c := (c, ys.length - 1, [x8])) (hcs.ex e11) (e5.trans e11) nH hv10 (by omega) ⟨hc1, hc2, hc3, by simp, ?_, ?_⟩ (hus ▸ hc4) fun H12 e12 hcs12 k12 t12 => ?_
        · show ys.length - 1 + 1 ≤ cs.length
          omega
        · intro x hx
          rw [List.mem_singleton.mp hx]; exact hx8
        · exact ⟨_, _, _, _, _, _, cl ++ [(c, ys.length - 1, [x8])], rfl, by rw [List.map_append, hus]; rfl, e12, by rw [k12 _ (Ne.symm npD)]; exact e11 _ _ hD5, (hds5.ex e11).tp t12, hcs12, by simp [hci]⟩
      · refine ⟨_, rfl, _, rfl, len_l (sq_of hD7) ⟨a, _, rfl, (ha.ex e5).ex e7, by rw [hPL]; omega, fun r3 hr3 => add_i ?_⟩⟩
        refine ⟨_, rfl, _, rfl, len_l (sq_of hD7) ⟨_, rfl, _, _, rfl, rfl, add_i ⟨a, _, rfl, (ha.ex e5).ex e7, by rw [hPL]; omega, fun r4 hr4 => ?_⟩⟩⟩
        rw [hPL] at hr3 hr4
        refine ⟨_, rfl, .inl ⟨rfl, hcs.dl.ex e7 |>.sq⟩, _, rfl, _, rfl, ?_⟩
        refine ⟨_, rfl, (1 : Int) + r3, rfl, by omega, by omega, fun D2 nD2 => ?_⟩
        refine lc_gen (walk_range (lo := 0) (n := ((1 : Int) + r3).toNat)) (ChsΨ n) chs_tp nD2 ⟨[], rfl, .nil, fun _ h => by cases h⟩ (fun _ _ => trivial) ?_ ?_
        · rintro i y acc H8 H9 hi l1 hD2 e8 hp ⟨rfl, rfl⟩
          refine ⟨rfl, yT ⟨_, rfl, _, rfl, a, n, rfl, ((ha.ex e5).ex e7).ex e8, by omega, by omega, fun v c H4 e4 hc hv => ?_⟩⟩
          exact LcN.mk chs_tp nD2 hD2 e8 e4 l1 (by rw [sizeLine_eq]; omega) (chs_snoc hp e4 hc hv)
        rintro zs H8 e8 hD8 _ ⟨ms, hml, hmd, hmm⟩
        refine tup_d (sq_of hD8) hmd fun v9 H9 e9 hv9 => ?_
        refine tupN_d (ds := [.str (ch c), .int r4, dCh ms]) (.cons (.str _) (.cons (.int _) (.cons hv9 .nil))) (by show 3 ≤ 100; decide) fun v10 H10 e10 hv10 => ?_
        have e11 : Ex H6 H10 := ((e7.trans e8).trans e9).trans e10
        refine CsI.app (c := (c, r4, ms)) (hcs.ex e11) (e5.trans e11) nH hv10 (by omega) ⟨hc1, hc2, hc3, ?_, ?_, hmm⟩ (hus ▸ hc4) fun H12 e12 hcs12 k12 t12 => ?_
        · intro e; have e' : ms = [] := e; rw [e'] at hml; simp at hml; omega
        · show r4 + ms.length ≤ cs.length
          omega
        · exact ⟨_, _, _, _, _, _, cl ++ [(c, r4, ms)], rfl, by rw [List.map_append, hus]; rfl, e12, by rw [k12 _ (Ne.symm npD)]; exact e11 _ _ hD5, (hds5.ex e11).tp t12, hcs12, by simp [hci]⟩
    · rintro σ H5 ⟨us, x1, x2, x3, x4, x5, cl, rfl, hus, e5, hD5, hds5, ⟨⟨zs, hz, hzd⟩, hok, hnd⟩, hci⟩
      refine ⟨_, rfl, _, rfl, tup_d (sq_of hD5) hds5 fun v6 H6 e6 hv6 => ⟨_, rfl, tup_d (sq_of (e6 _ _ hz)) (hzd.ex e6) fun v7 H7 e7 hv7 => ?_⟩⟩
      refine tupN_d (ds := [.int n, dCh cs, dCalls cl]) (.cons (.int _) (.cons (hv6.ex e7) (.cons hv7 .nil))) (by show 3 ≤ 100; decide) fun v8 H8 e8 hv8 => ?_
      exact q v8 ⟨n, cs, cl⟩ H8 (((e5.trans e6).trans e7).trans e8) ⟨hn3, by show n ≤ 8; omega, h1, h12, hcm, by show cl.length ≤ 5; omega, hok, hnd⟩ hv8
  · refine ⟨_, rfl, tru_v (k := hu0) rfl (iB (b := hu0) rfl (fun e => ?_) (fun e => ?_))⟩
    · refine ⟨_, rfl, _, rfl, a, n, rfl, ha.ex e12, by have := hh4 e; omega, hn5, fun D cs H3 e3 ⟨ys, hy, hyd, hym⟩ h1 h12 => ?_⟩
      exact k _ _ ⟨D, ys, cs, rfl, e12.trans e3, hy, hyd, hym, h1, h12⟩
    · refine ⟨_, rfl, a, 5, rfl, ha.ex e12, by decide, fun r1 hr1 => add_i ⟨(1 : Int) + r1, rfl, by omega, by omega, fun D nD => ?_⟩⟩
      refine lc_gen (walk_range (lo := 0) (n := ((1 : Int) + r1).toNat)) (ChsΨ n) chs_tp nD ⟨[], rfl, .nil, fun _ h => by cases h⟩ (fun _ _ => trivial) ?_ ?_
      · rintro i y acc H4 H5 hi l1 hD e4 hp ⟨rfl, rfl⟩
        refine ⟨rfl, yT ⟨_, rfl, _, rfl, a, n, rfl, (ha.ex e12).ex e4, by omega, by omega, fun v c H6 e6 hc hv => ?_⟩⟩
        exact LcN.mk chs_tp nD hD e4 e6 l1 (by rw [sizeLine_eq]; omega) (chs_snoc hp e6 hc hv)
      rintro ys H4 e4 hD _ ⟨cs, hcl, hcd, hcm⟩
      exact k _ _ ⟨D, ys, cs, rfl, e12.trans e4, hD, hcd, hcm, by omega, by omega⟩
end
end L2
set_option Elab.async false
set_option linter.all false
set_option maxRecDepth 100000
set_option maxHeartbeats 4000000
namespace L2
open PySem PySem.Spec PyProof.Rows Evl
/-! ### dicts by letters -/
/-- the pairs of a dict, key by key the letters ls, the values by R -/
def Tab (R : Nat → V → Prop) (kvs : List (Key × V)) (ls : List Nat) : Prop := Paired (fun kv c => kv.1 = .inr (ch c) ∧ R c kv.2) kvs ls
theorem key_inj {a b : Nat} (h : (Sum.inr (ch a) : Key) = .inr (ch b)) : a = b := ch_inj (Sum.inr.inj h)
theorem Tab.get {R : Nat → V → Prop} {kvs : List (Key × V)} {ls : List Nat} (h : Tab R kvs ls) {c : Nat} (hc : c ∈ ls) : ∃ v, valV kvs (.inr (ch c)) = some v ∧ R c v := by
  unfold Tab at h
  induction h with
  | nil => cases hc
  | @cons kv b l1 l2 hk t ih =>
    by_cases e : kv.1 = .inr (ch c)
    · have : b = c := key_inj (hk.1.symm.trans e)
      subst this
      exact ⟨kv.2, valV_pos e, hk.2⟩
    · rw [valV_neg e]
      rcases List.mem_cons.mp hc with h | h
      · subst h; exact absurd hk.1 e
      · exact ih h
theorem Tab.no {R : Nat → V → Prop} {kvs : List (Key × V)} {ls : List Nat} (h : Tab R kvs ls) {c : Nat} (hc : c ∉ ls) : valV kvs (.inr (ch c)) = none := by
  unfold Tab at h
  induction h with
  | nil => rfl
  | @cons kv b l1 l2 hk t ih =>
    have e : ¬ kv.1 = .inr (ch c) := fun e => hc (by have := key_inj (hk.1.symm.trans e); subst this; exact List.mem_cons_self ..)
    rw [valV_neg e]
    exact ih fun h => hc (List.mem_cons_of_mem _ h)
theorem Tab.put {R : Nat → V → Prop} {kvs : List (Key × V)} {ls : List Nat} (h : Tab R kvs ls) {c : Nat} {v : V} (hc : c ∉ ls) (hv : R c v) : Tab R (putK kvs (.inr (ch c)) v) (ls ++ [c]) := by
  rw [putK_new v (h.no hc)]
  exact Paired.snoc h ⟨rfl, hv⟩
theorem Tab.imp {R R' : Nat → V → Prop} {kvs : List (Key × V)} {ls : List Nat} (h : Tab R kvs ls) (f : ∀ c v, R c v → R' c v) : Tab R' kvs ls := Paired.mapP h fun kv c q => ⟨q.1, f c _ q.2⟩
theorem Tab.len {R : Nat → V → Prop} {kvs : List (Key × V)} {ls : List Nat} (h : Tab R kvs ls) : kvs.length = ls.length := Paired.length h
theorem Tab.keys {R : Nat → V → Prop} {kvs : List (Key × V)} {ls : List Nat} (h : Tab R kvs ls) : kvs.map (·.1) = (ls.map ch).map Sum.inr := by
  unfold Tab at h
  induction h with
  | nil => rfl
  | cons hk t ih => rw [List.map_cons, ih, hk.1]; rfl
/-- a reordered list of letters -/
def dec1 (s : Str) : Nat := s.cps.getD 0 0
theorem dec1_ch (c : Nat) : dec1 (ch c) = c := rfl
theorem perm_ch {ys : List Str} {ls : List Nat} (h : ys.Perm (ls.map ch)) : ∃ ms : List Nat, ms.Perm ls ∧ ys = ms.map ch := by
  refine ⟨ys.map dec1, ?_, ?_⟩
  · have := h.map dec1
    rw [List.map_map] at this
    have e : (ls.map (dec1 ∘ ch)) = ls := by
      rw [show dec1 ∘ ch = id from rfl, List.map_id]
    rwa [e] at this
  · rw [List.map_map]
    symm
    have : ∀ y ∈ ys, (ch ∘ dec1) y = y := by
      intro y hy
      obtain ⟨c, _, e⟩ := List.mem_map.mp ((h.mem_iff).mp hy)
      subst e
      rfl
    rw [List.map_congr_left this, List.map_id']
theorem join_ch (ls : List Nat) : Txt.join ("" : Str) (ls.map ch) = tx ls := by
  rw [show Txt.join ("" : Str) (ls.map ch) = Str.join ("" : Str) (ls.map ch) from TL.join_eq _ _]
  have h1 : ∀ ps : List Str, TL.tl (Str.join ("" : Str) ps) = (ps.map TL.tl).flatten := by
    intro ps
    rw [TL.tl_join]
    have h2 : ∀ qs : List (List Nat), TL.joinL (TL.tl ("" : Str)) qs = qs.flatten := by
      intro qs
      have e0 : TL.tl ("" : Str) = [] := rfl
      rw [e0]
      induction qs with
      | nil => rfl
      | cons p t ih =>
        cases t with
        | nil => simp [TL.joinL]
        | cons q r =>
          show p ++ ([] ++ TL.joinL [] (q :: r)) = _
          rw [ih]; rfl
    exact h2 _
  have h3 : TL.tl (Str.join ("" : Str) (ls.map ch)) = TL.tl (tx ls) := by
    rw [h1, List.map_map]
    have : (ls.map (TL.tl ∘ ch)) = ls.map fun c => [c] := rfl
    rw [this]
    clear this h1
    show (ls.map fun c => [c]).flatten = (ls.toArray).toList
    induction ls with
    | nil => rfl
    | cons a l ih => simpa using ih
  have h4 : ∀ a b : Str, TL.tl a = TL.tl b → a = b := by
    intro a b e
    cases a; cases b
    congr 1
    exact Array.toList_inj.mp e
  exact h4 _ _ h3
theorem cut_take {xs : List V} {k : Nat} (h : k ≤ xs.length) : cutV xs none (some (k : Int)) = xs.take k := by
  unfold cutV
  rw [HT.sIx_nat, HT.sIx_none, List.drop_zero, Nat.sub_zero, Nat.min_eq_left h]
theorem cut_drop {xs : List V} {k : Nat} (h : k ≤ xs.length) : cutV xs (some (k : Int)) none = xs.drop k := by
  unfold cutV
  rw [HT.sIx_nat, HT.sIx_none, Nat.min_eq_left h, List.take_of_length_le (by rw [List.length_drop]; exact Nat.le_refl _)]
theorem DtAll.take {H : Hp} : ∀ {vs : List V} {ds : List PyData} (n : Nat), DtAll H vs ds → DtAll H (vs.take n) (ds.take n)
  | _, _, 0, _ => .nil
  | _, _, _ + 1, .nil => .nil
  | _, _, n + 1, .cons h t => .cons h (t.take n)
theorem DtAll.drop {H : Hp} : ∀ {vs : List V} {ds : List PyData} (n : Nat), DtAll H vs ds → DtAll H (vs.drop n) (ds.drop n)
  | _, _, 0, h => h
  | _, _, _ + 1, .nil => .nil
  | _, _, n + 1, .cons _ t => t.drop n
section
variable {P : Program} {w : World} {K : PySem.W.Frag} {mg : Str → Option Value} {base : Heap} {f : Addr} {fd : FuncData} {cl : Cls6}
abbrev s__law_letters : Stmt := top 88
abbrev N__law_letters : List Str := ["_law_world_here", "_law_call"]
theorem sc__law_letters : FnScope N__law_letters ["_law_world_here"] (defScope s__law_letters) := ⟨rfl, rfl, rfl, by decide +kernel, rfl, by decide +kernel, by decide +kernel⟩
def sp__law_letters (K : PySem.W.Frag) : Sp := fun vs H Q _ => ∃ (x : V) (d : Wd), vs = [x] ∧ Dt H x (dWorld d) ∧ d.calls.length ≤ 10 ∧ ∀ ls H', Ex H H' → ls.Perm (lts d) → Q (.str (tx ls)) H'
theorem ok__law_letters  (T : Txt K mg cl) (F : FnP K "_law_letters" "_law_letters" s__law_letters [] f fd)  : FnOk P w K mg base CX0 1 f fd ["_law_world_here"] ((sp__law_letters K)) := by
  refine F.ok sc__law_letters (fun vs H Q E h => ?_) (fun cdv A outer s H vs Q E hr h => ?_)
  · unfold sp__law_letters at h; (repeat obtain ⟨_, h⟩ := h); subst_vars; rfl
  have hu := hr.units
  refine ⟨_, PSs.nox (pss_one (ps_ret (pe_bm PySem.F.plainAttrs_str PySem.F.slot_str_join PySem.F.type_str_join mt_join pe_str (pa_cons (pe_callB cr_sortedS (by rfl) T.b_sorted (by decide +kernel) (pa_cons (pe_op (op_addA (K := K)) (pe_lst (pa_cons pe_str pa_nil)) (pe_lc (own := [("_law_call", 1)]) rfl sc__law_letters.nd (pi_tup (pe_ix (ix_A (P := P) (w := w) (K := K) hu) (pv 0) pe_int (fun _ _ => rfl))) (blkOk_by (N := N__law_letters) (sc := defScope s__law_letters) (by decide +kernel)) (fun _ _ _ _ _ => (pg_name (i := 1) sc__law_letters.nd rfl (Or.inl rfl))) (fun _ _ _ _ _ => pts_nil) (fun _ _ _ _ _ => (pe_ix (ix_A (P := P) (w := w) (K := K) hu) (pv 1) pe_int (fun _ _ => rfl))))) pa_nil)) pa_nil)))), ?_⟩
  obtain ⟨x, d, rfl, hx, hl, q⟩ := h
  have hcs : ∃ y, Dt H y (dCalls d.calls) := by
    obtain ⟨a, o, xs, rfl, _, _, h⟩ := hx.tupI
    cases h with
    | cons h1 h => cases h with
      | cons h2 h => cases h with
        | cons h3 h => exact ⟨_, h3⟩
  refine ⟨rfl, ⟨by show 1 ≤ sizeLine; decide, fun p hp => ⟨_, rfl, ix_d (hx.ex (Ex.new hp)) (i := 2) (d := dCalls d.calls) rfl fun y hy => ?_⟩⟩⟩
  have e0 : Ex H (upd H p (.lst [.str (ch 112)])) := Ex.new hp
  obtain ⟨a, o, xs, rfl, ha, hao, hxs⟩ := hy.tupI
  refine ⟨a, rfl, ⟨xs, .inl (.inr ⟨o, ha⟩)⟩, fun D nD => ?_⟩
  refine lc_gen (walk_tup (xs := xs)) (fun i acc H => acc = (d.calls.take i).map fun k => V.str (ch k.1)) (fun _ _ _ _ _ h => h) nD rfl (fun H2 e => ex_t e (.inl (.inr ⟨o, ha⟩))) ?_ ?_
  · rintro i y acc H2 H3 hi l1 hD e1 rfl ⟨rfl, hy2⟩
    obtain ⟨dy, hdy, hyd⟩ := (hxs.ex e1).get hy2
    rw [List.getElem?_map] at hdy
    cases hk : d.calls[i]? with
    | none => rw [hk] at hdy; cases hdy
    | some k =>
      rw [hk] at hdy
      obtain rfl := Option.some.inj hdy
      refine ⟨rfl, yT ⟨_, rfl, ix_d hyd (i := 0) (d := .str (ch k.1)) rfl fun v hv => ?_⟩⟩
      rw [hv.strI]
      refine LcN.mk (fun _ _ _ _ _ h => h) nD hD e1 (Ex.refl _) l1 (by rw [sizeLine_eq]; rw [hxs.len, List.length_map] at hi; omega) ?_
      rw [List.take_succ, hk]
      simp
  · rintro ys H2 e1 hD _ rfl
    rw [hxs.len, List.length_map, List.take_length] at hD
    have hp2 : H2 p = some (.lst [.str (ch 112)]) := e1 _ _ upd_same
    refine add_l hp2 hD (by rw [sizeLine_eq]; simp; omega) fun p3 np3 => ?_
    have eL : ([V.str (ch 112)] ++ d.calls.map fun k => V.str (ch k.1)) = ((lts d).map ch).map V.str := by simp [lts]
    rw [eL]
    refine ⟨p3, (lts d).map ch, rfl, sq_of upd_same, by simp [lts]; omega, fun ys p4 hys hso hp4 => ?_⟩
    obtain ⟨ms, hms, rfl⟩ := perm_ch hys
    have hml : ms.length ≤ 11 := by rw [hms.length_eq]; simp [lts]; omega
    refine ⟨_, p4, ms.map ch, rfl, rfl, .inl (sq_of upd_same), ?_, ?_⟩
    · have : ((ms.map ch).map (·.length)).sum = ms.length := by
        clear hml hms hys hso
        induction ms with
        | nil => rfl
        | cons a l ih => rw [List.map_cons, List.map_cons, List.sum_cons, ih, List.length_cons]; show 1 + l.length = _; omega
      rw [this, List.length_map]
      show ms.length + ms.length * 0 ≤ _
      omega
    · rw [join_ch]
      exact q ms _ ((((e0.trans e1)).trans (Ex.new np3)).trans (Ex.new hp4)) hms
abbrev s__law_lead_of : Stmt := top 89
abbrev N__law_lead_of : List Str := ["_law_world_here", "_law_letter_here", "_law_lead", "_law_call"]
theorem sc__law_lead_of : FnScope N__law_lead_of ["_law_world_here", "_law_letter_here"] (defScope s__law_lead_of) := ⟨rfl, rfl, rfl, by decide +kernel, rfl, by decide +kernel, by decide +kernel⟩
def sp__law_lead_of (K : PySem.W.Frag) : Sp := fun vs H Q _ => ∃ (x : V) (d : Wd) (c : Nat), vs = [x, .str (ch c)] ∧ Dt H x (dWorld d) ∧ WdOk d ∧ ∀ v H', Ex H H' → Dt H' v (dCh (leadOf d c)) → Q v H'
theorem ok__law_lead_of  (T : Txt K mg cl) (F : FnP K "_law_lead_of" "_law_lead_of" s__law_lead_of [] f fd)  : FnOk P w K mg base CX0 1 f fd ["_law_world_here", "_law_letter_here"] ((sp__law_lead_of K)) := by
  refine F.ok sc__law_lead_of (fun vs H Q E h => ?_) (fun cdv A outer s H vs Q E hr h => ?_)
  · unfold sp__law_lead_of at h; (repeat obtain ⟨_, h⟩ := h); subst_vars; rfl
  have hu := hr.units
  refine ⟨_, PSs.nox (pss_cons (ps_set (i := 2) sc__law_lead_of.nd rfl (Or.inl rfl) (pe_callTy call_list_of (by rfl) T.b_list (by decide +kernel) (pa_cons (pe_ix (ix_A (P := P) (w := w) (K := K) hu) (pv 0) pe_int (fun _ _ => rfl)) pa_nil)))
      (pss_cons (ps_for PassesOwn.never rfl (pi_tup (pe_ix (ix_A (P := P) (w := w) (K := K) hu) (pv 0) pe_int (fun _ _ => rfl))) (pg_name (i := 3) sc__law_lead_of.nd rfl (Or.inl rfl)) (pss_one (ps_if (pt_cmpR (op_eqA (K := K) hu) (pe_ix (ix_A (P := P) (w := w) (K := K) hu) (pv 3) pe_int (fun _ _ => rfl)) (pv 1) (nomark _)) (pss_one (ps_set (i := 2) sc__law_lead_of.nd rfl (Or.inl rfl) (pe_op (op_addA (K := K)) (pe_op (op_addA (K := K)) (pe_slice (sl_A (K := K)) (pv 2) po_none (po_some (pe_ix (ix_A (P := P) (w := w) (K := K) hu) (pv 3) pe_int (fun _ _ => rfl)))) (pe_callTy call_list_of (by rfl) T.b_list (by decide +kernel) (pa_cons (pe_ix (ix_A (P := P) (w := w) (K := K) hu) (pv 3) pe_int (fun _ _ => rfl)) pa_nil))) (pe_slice (sl_A (K := K)) (pv 2) (po_some (pe_op (op_addA (K := K)) (pe_ix (ix_A (P := P) (w := w) (K := K) hu) (pv 3) pe_int (fun _ _ => rfl)) (pe_callB (call_lenA (P := P) (w := w) (K := K)) (by rfl) T.b_len (by decide +kernel) (pa_cons (pe_ix (ix_A (P := P) (w := w) (K := K) hu) (pv 3) pe_int (fun _ _ => rfl)) pa_nil)))) po_none)))) pss_nil)))
      (pss_one (ps_ret (pe_callTy (call_tupN (K := K)) (by rfl) T.b_tuple (by decide +kernel) (pa_cons (pv 2) pa_nil)))))), ?_⟩
  obtain ⟨x, d, c, rfl, hx, hd, q⟩ := h
  refine ⟨_, rfl, ix_d hx (i := 1) (d := dCh d.plain) rfl fun y hy => ?_⟩
  obtain ⟨a, o, xs, rfl, ha, _, hxs⟩ := hy.tupI
  refine ⟨a, xs, rfl, .inr (.inl (.inr ⟨o, ha⟩)), fun p hp => ?_⟩
  have e0 : Ex H (upd H p (.lst xs)) := Ex.new hp
  refine ⟨_, rfl, ix_d (hx.ex e0) (i := 2) (d := dCalls d.calls) rfl fun z hz => ?_⟩
  obtain ⟨b, o2, zs, rfl, hb, _, hzs⟩ := hz.tupI
  refine ⟨b, rfl, ⟨zs, .inl (.inr ⟨o2, hb⟩)⟩, ?_⟩
  refine for_it (walk_tup (xs := zs)) (fun i σ H2 => ∃ (l : Addr) (t : Option V) (ys : List V), σ = [some x, some (.str (ch c)), some (.ref l), t] ∧ Ex (upd H p (.lst xs)) H2 ∧ H2 l = some (.lst ys) ∧ DtAll H2 ys ((leadIn d.plain (d.calls.take i) c).map dRow))
    ⟨p, none, xs, rfl, Ex.refl _, upd_same, hxs.ex e0⟩ (fun i σ H2 _ ⟨_, _, _, _, e, _⟩ => ex_t e (.inl (.inr ⟨o2, hb⟩))) ?_ ?_
  · rintro i y σ H2 H3 hi ⟨l, t, ys, rfl, e2, hl, hys⟩ ⟨rfl, hy2⟩
    obtain ⟨dy, hdy, hyd⟩ := (hzs.ex e2).get hy2
    rw [List.getElem?_map] at hdy
    cases hk : d.calls[i]? with
    | none => rw [hk] at hdy; cases hdy
    | some k =>
      rw [hk] at hdy
      obtain rfl := Option.some.inj hdy
      have hko := hd.call k (List.mem_of_getElem? hk)
      have htk : d.calls.take (i + 1) = d.calls.take i ++ [k] := by rw [List.take_succ, hk]; rfl
      have hlen : ys.length = d.plain.length := by
        have h1 := hys.len
        rw [List.length_map] at h1
        rw [h1]
        exact (leadIn_facts (n := d.st) c hd.mad fun k hk => hd.call k (List.mem_of_mem_take hk)).2
      refine ⟨_, rfl, ix_d hyd (i := 0) (d := .str (ch k.1)) rfl fun v0 hv0 => ⟨_, rfl, ?_⟩⟩
      rw [hv0.strI]
      refine eq_s ⟨_, rfl, iB (b := decide (ch k.1 = ch c)) rfl (fun e => ?_) (fun e => ?_)⟩
      · have hkc : k.1 = c := ch_inj (of_decide_eq_true e)
        have hnot : c ∉ (d.calls.take i).map (·.1) := by
          intro hm
          have hnd := hd.nd
          rw [← List.take_append_drop (i + 1) d.calls, htk, List.map_append, List.map_append, List.append_assoc, List.nodup_append] at hnd
          have := hnd.2.2 c hm
          exact this c (by simp [hkc]) rfl
        obtain ⟨l1, l2⟩ := leadIn_snoc_eq (plain := d.plain) hkc hnot
        rw [l1] at hys
        refine ⟨_, rfl, ⟨_, rfl, ix_d hyd (i := 1) (d := .int k.2.1) rfl fun v1 hv1 => ⟨_, hv1.intI, slc_l (sq_of hl) fun p1 hp1 => ?_⟩⟩⟩
        rw [cut_take (by rw [hlen]; have := hko.fit; omega)]
        have E1 := Ex.new (o := .lst (ys.take k.2.1)) hp1
        refine ⟨_, rfl, ix_d (hyd.ex E1) (i := 2) (d := dCh k.2.2) rfl fun v2 hv2 => ?_⟩
        obtain ⟨b2, o3, ms, rfl, hb2, _, hms⟩ := hv2.tupI
        refine ⟨b2, ms, rfl, .inr (.inl (.inr ⟨o3, hb2⟩)), fun p2 hp2 => ?_⟩
        have E2 := Ex.new (o := .lst ms) hp2
        have hml := hms.len
        rw [List.length_map] at hml
        have hfit := hko.fit
        have hd32 := hd.p32
        refine add_l (E2 _ _ upd_same) upd_same (by rw [sizeLine_eq, List.length_take]; omega) fun p3 hp3 => ?_
        have E3 := Ex.new (o := .lst (ys.take k.2.1 ++ ms)) hp3
        have E123 := (E1.trans E2).trans E3
        refine ⟨_, rfl, ⟨_, rfl, ix_d (hyd.ex E123) (i := 1) (d := .int k.2.1) rfl fun v3 hv3 => ⟨_, rfl, ix_d (hyd.ex E123) (i := 2) (d := dCh k.2.2) rfl fun v4 hv4 => ?_⟩⟩⟩
        rw [hv3.intI]
        refine len_t hv4.dp (add_i ⟨_, rfl, ?_⟩)
        refine slc_l (sq_of (E123 _ _ hl)) fun p4 hp4 => ?_
        rw [List.length_map, show ((k.2.1 : Nat) : Int) + ((k.2.2.length : Nat) : Int) = ((k.2.1 + k.2.2.length : Nat) : Int) by omega, cut_drop (by rw [hlen]; omega)]
        have E4 := Ex.new (o := .lst (ys.drop (k.2.1 + k.2.2.length))) hp4
        refine add_l (E4 _ _ upd_same) upd_same (by rw [sizeLine_eq, List.length_append, List.length_take, List.length_drop]; omega) fun p5 hp5 => ?_
        have E5 := Ex.new (o := .lst (ys.take k.2.1 ++ ms ++ ys.drop (k.2.1 + k.2.2.length))) hp5
        have EA := (E123.trans E4).trans E5
        refine ⟨p5, _, _, rfl, e2.trans EA, upd_same, ?_⟩
        rw [htk, l2, List.map_append, List.map_append, List.map_take, List.map_drop]
        exact (((hys.ex EA).take _).app (hms.ex (((E2.trans E3).trans E4).trans E5))).app ((hys.ex EA).drop _)
      · have hkc : k.1 ≠ c := fun e2 => by rw [e2] at e; simp at e
        refine ⟨l, _, ys, rfl, e2, hl, ?_⟩
        rw [htk, leadIn_snoc_ne hkc]
        exact hys
  · rintro σ H2 ⟨l, t, ys, rfl, e2, hl, hys⟩
    rw [hzs.len, List.length_map, List.take_length] at hys
    exact ⟨_, rfl, tup_d (sq_of hl) hys fun v H3 e3 hv => q v H3 ((e0.trans e2).trans e3) hv⟩
abbrev s__law_body_of : Stmt := top 90
abbrev N__law_body_of : List Str := ["_law_world_here", "_law_letter_here", "_law_row_here", "_law_rows", "_law_change_here"]
theorem sc__law_body_of : FnScope N__law_body_of ["_law_world_here", "_law_letter_here"] (defScope s__law_body_of) := ⟨rfl, rfl, rfl, by decide +kernel, rfl, by decide +kernel, by decide +kernel⟩
def sp__law_body_of (K : PySem.W.Frag) : Sp := fun vs H Q _ => ∃ (x : V) (d : Wd) (c : Nat), vs = [x, .str (ch c)] ∧ Dt H x (dWorld d) ∧ WdOk d ∧ ∀ p vs v H', Ex H H' → H' p = some (.lst (vs ++ [v])) → Dt H' v (dRow (mvD d c)) → Q (.ref p) H'
theorem mv_bound {n : Nat} {r m : List Int} (hr : Pm n r) (hm : Pm n m) : ∀ i ∈ m, 1 ≤ i ∧ i ≤ (r.length : Int) := fun i hi => by
  rw [hr.1]; exact hm.2.1 i hi
theorem ok__law_body_of  (T : Txt K mg cl) (F : FnP K "_law_body_of" "_law_body_of" s__law_body_of [] f fd) (G__law_rounds : GDef P w K mg base "_law_rounds" 1 ["_law_stage"] [] (sp__law_rounds)) (G__law_lead_of : GDef P w K mg base "_law_lead_of" 1 ["_law_world_here", "_law_letter_here"] [] ((sp__law_lead_of K))) (G__law_moved : GDef P w K mg base "_law_moved" 1 ["_law_row_here", "_law_move"] [] ((sp__law_moved K))) (G__law_change_move : GDef P w K mg base "_law_change_move" 1 ["_law_change_here", "_law_stage"] [] ((sp__law_change_move K))) : FnOk P w K mg base CX0 2 f fd ["_law_world_here", "_law_letter_here"] ((sp__law_body_of K)) := by
  refine F.ok sc__law_body_of (fun vs H Q E h => ?_) (fun cdv A outer s H vs Q E hr h => ?_)
  · unfold sp__law_body_of at h; (repeat obtain ⟨_, h⟩ := h); subst_vars; rfl
  have hu := hr.units
  refine ⟨_, PSs.nox (pss_cons (ps_set (i := 2) sc__law_body_of.nd rfl (Or.inl rfl) (pe_g G__law_rounds hr (pa_cons (pe_ix (ix_A (P := P) (w := w) (K := K) hu) (pv 0) pe_int (fun _ _ => rfl)) pa_nil)))
      (pss_cons (ps_set (i := 3) sc__law_body_of.nd rfl (Or.inl rfl) (pe_lst (pa_cons (pv 2) pa_nil)))
      (pss_cons (ps_for PassesOwn.never rfl (pi_tup (pe_g G__law_lead_of hr (pa_cons (pv 0) (pa_cons (pv 1) pa_nil)))) (pg_name (i := 4) sc__law_body_of.nd rfl (Or.inl rfl)) (pss_cons (ps_set (i := 2) sc__law_body_of.nd rfl (Or.inl rfl) (pe_g G__law_moved hr (pa_cons (pv 2) (pa_cons (pe_g G__law_change_move hr (pa_cons (pv 4) (pa_cons (pe_ix (ix_A (P := P) (w := w) (K := K) hu) (pv 0) pe_int (fun _ _ => rfl)) pa_nil))) pa_nil))))
      (pss_one (ps_expr (pe_bm PySem.F.plainAttrs_list PySem.F.slot_list_append PySem.F.type_list_append mt_append (pv 3) (pa_cons (pv 2) pa_nil))))))
      (pss_one (ps_ret (pv 3)))))), ?_⟩
  obtain ⟨x, d, c, rfl, hx, hd, q⟩ := h
  have h3 := hd.s3
  have h8 := hd.s8
  refine ⟨_, rfl, ix_d hx (i := 0) (d := .int d.st) rfl fun v0 hv0 => ?_⟩
  rw [hv0.intI]
  refine ⟨d.st, rfl, h8, fun v1 H1 e1 hv1 => ?_⟩
  refine ⟨_, rfl, by show 1 ≤ sizeLine; decide, fun p hp => ?_⟩
  have e2 : Ex H (upd H1 p (.lst [v1])) := e1.trans (Ex.new hp)
  have np : H p = none := fresh_back e1 hp
  refine ⟨_, rfl, _, rfl, x, d, c, rfl, hx.ex e2, hd, fun v2 H3 e3 hv2 => ?_⟩
  obtain ⟨a, o, xs, rfl, ha, _, hxs⟩ := hv2.tupI
  have lf := leadIn_facts (n := d.st) (plain := d.plain) (cs := d.calls) c hd.mad hd.call
  refine ⟨a, rfl, ⟨xs, .inl (.inr ⟨o, ha⟩)⟩, ?_⟩
  refine for_it (walk_tup (xs := xs)) (fun i σ H4 => ∃ (r : V) (t : Option V) (vs : List V), σ = [some x, some (.str (ch c)), some r, some (.ref p), t] ∧ Ex H H4 ∧ H4 p = some (.lst (vs ++ [r])) ∧ vs.length = i ∧ Dt H4 r (dRow (hdRow d.st ((leadOf d c).take i))) ∧ H4 a = some (.frz o (.tup xs)) ∧ DtAll H4 xs ((leadOf d c).map dRow))
    ⟨v1, none, [], rfl, e2.trans e3, e3 _ _ upd_same, rfl, (hv1.ex (Ex.new hp)).ex e3, ha, hxs⟩ (fun i σ H2 _ ⟨_, _, _, _, _, _, _, _, h, _⟩ => .inl (.inr ⟨o, h⟩)) ?_ ?_
  · rintro i y σ H4 H5 hi ⟨r, t, vs, rfl, e4, hpl, hvl, hr, ha4, hx4⟩ ⟨rfl, hy2⟩
    obtain ⟨dy, hdy, hyd⟩ := hx4.get hy2
    rw [List.getElem?_map] at hdy
    cases hk : (leadOf d c)[i]? with
    | none => rw [hk] at hdy; cases hdy
    | some k =>
      rw [hk] at hdy
      obtain rfl := Option.some.inj hdy
      have htk : (leadOf d c).take (i + 1) = (leadOf d c).take i ++ [k] := by rw [List.take_succ, hk]; rfl
      have hi12 : i < 12 := by
        have h1 := hx4.len
        rw [List.length_map] at h1
        have h2 := lf.2
        have := hd.p32
        unfold leadOf at h1
        omega
      refine ⟨_, rfl, _, rfl, _, rfl, ix_d (hx.ex e4) (i := 0) (d := .int d.st) rfl fun v5 hv5 => ?_⟩
      rw [hv5.intI]
      refine ⟨y, k, d.st, rfl, hyd.dp, h8, fun v6 H6 e6 hv6 => ?_⟩
      refine ⟨r, v6, _, _, rfl, (hr.ex e6).dp, hv6.dp, mv_bound (hdRow_pm) (mvOf_pm d.st k), by rw [(mvOf_pm d.st k).1]; exact h8, fun v7 H7 e7 hv7 => ?_⟩
      have e67 := e6.trans e7
      refine ⟨_, rfl, .inl ⟨rfl, _, sq_of (e67 _ _ hpl)⟩, _, rfl, p, _, _, rfl, rfl, e67 _ _ hpl, by rw [sizeLine_eq]; simp; omega, ?_⟩
      have tp := Tp.upd (o := HO.lst (vs ++ [r] ++ [v7])) (Sft.lst (e67 _ _ hpl))
      refine ⟨v7, _, vs ++ [r], rfl, (e4.trans e67).mut np, upd_same, by simp [hvl], ?_, tp.2 _ _ _ (e67 _ _ ha4), (hx4.ex e67).tp tp⟩
      rw [htk, hdRow_snoc]
      exact hv7.tp tp
  · rintro σ H4 ⟨r, t, vs, rfl, e4, hpl, hvl, hr, _⟩
    rw [hxs.len, List.length_map, List.take_length] at hr
    exact ⟨_, rfl, q p vs r H4 e4 hpl hr⟩
abbrev s__law_moves : Stmt := top 91
abbrev N__law_moves : List Str := ["_law_world_here", "_law_moves_here", "_law_letter_here"]
theorem sc__law_moves : FnScope N__law_moves ["_law_world_here"] (defScope s__law_moves) := ⟨rfl, rfl, rfl, by decide +kernel, rfl, by decide +kernel, by decide +kernel⟩
/-- the dict of moves at p -/
def MvAt (H : Hp) (p : Addr) (d : Wd) : Prop := ∃ kvs ls, H p = some (.dK kvs) ∧ Tab (fun c v => Dt H v (dRow (mvD d c))) kvs ls ∧ ls.Perm (lts d)
theorem MvAt.ex {H H' : Hp} {p : Addr} {d : Wd} (h : MvAt H p d) (e : Ex H H') : MvAt H' p d := by
  obtain ⟨kvs, ls, h1, h2, h3⟩ := h
  exact ⟨kvs, ls, e _ _ h1, h2.imp fun c v q => q.ex e, h3⟩
def sp__law_moves (K : PySem.W.Frag) : Sp := fun vs H Q _ => ∃ (x : V) (d : Wd), vs = [x] ∧ Dt H x (dWorld d) ∧ WdOk d ∧ ∀ p H', Ex H H' → MvAt H' p d → Q (.ref p) H'
theorem atI_lastX {α : Type} {xs : List α} {x : α} : atI (xs ++ [x]) (-1) = some x := by
  unfold atI ixN
  rw [if_neg (by decide), List.length_append, List.length_singleton, if_pos (by omega)]
  show (xs ++ [x])[(-1 + ((xs.length + 1 : Nat) : Int)).toNat]? = some x
  rw [show (-1 + ((xs.length + 1 : Nat) : Int)).toNat = xs.length by omega]
  simp
theorem ok__law_moves  (T : Txt K mg cl) (F : FnP K "_law_moves" "_law_moves" s__law_moves [] f fd) (G__law_letters : GDef P w K mg base "_law_letters" 1 ["_law_world_here"] [] ((sp__law_letters K))) (G__law_body_of : GDef P w K mg base "_law_body_of" 2 ["_law_world_here", "_law_letter_here"] [] ((sp__law_body_of K))) : FnOk P w K mg base CX0 3 f fd ["_law_world_here"] ((sp__law_moves K)) := by
  refine F.ok sc__law_moves (fun vs H Q E h => ?_) (fun cdv A outer s H vs Q E hr h => ?_)
  · unfold sp__law_moves at h; (repeat obtain ⟨_, h⟩ := h); subst_vars; rfl
  have hu := hr.units
  refine ⟨_, PSs.nox (pss_cons (ps_set (i := 1) sc__law_moves.nd rfl (Or.inl rfl) pe_dnewK)
      (pss_cons (ps_for PassesOwn.never rfl (pi_str (pe_g G__law_letters hr (pa_cons (pv 0) pa_nil))) (pg_name (i := 2) sc__law_moves.nd rfl (Or.inl rfl)) (pss_one (ps_asg (pe_ix (ix_A (P := P) (w := w) (K := K) hu) (pe_g G__law_body_of hr (pa_cons (pv 0) (pa_cons (pv 2) pa_nil))) (pe_un un_neg pe_int) (fun _ _ => rfl)) (pg_sub (pv 1) (pv 2) (set_A (P := P) (w := w) (K := K) hu)))))
      (pss_one (ps_ret (pv 1))))), ?_⟩
  obtain ⟨x, d, rfl, hx, hd, q⟩ := h
  refine fun p hp => ⟨_, rfl, x, d, rfl, hx.ex (Ex.new hp), by have := hd.c5; omega, fun ls H1 e1 hls => ⟨tx ls, rfl, ?_⟩⟩
  have e0 := (Ex.new (o := HO.dK []) hp).trans e1
  have hnd : ls.Nodup := (hls.nodup_iff).mpr (lts_nodup hd)
  have hl6 : ls.length ≤ 6 := by rw [hls.length_eq]; exact lts_len hd
  refine for_it (walk_str (z := tx ls)) (fun i σ H2 => ∃ (t : Option V) (kvs : List (Key × V)), σ = [some x, some (.ref p), t] ∧ Ex H H2 ∧ H2 p = some (.dK kvs) ∧ Tab (fun c v => Dt H2 v (dRow (mvD d c))) kvs (ls.take i))
    ⟨none, [], rfl, e0, e1 _ _ upd_same, .nil⟩ (fun _ _ _ _ _ => trivial) ?_ ?_
  · rintro i y σ H2 H3 hi ⟨t, kvs, rfl, e2, hpk, htab⟩ ⟨rfl, c, hc, rfl⟩
    have hc2 : ls[i]? = some c := by simpa [tx] using hc
    have hcl : c ∈ ls := List.mem_of_getElem? hc2
    have htk : ls.take (i + 1) = ls.take i ++ [c] := by rw [List.take_succ, hc2]; rfl
    have hfresh : c ∉ ls.take i := by
      intro hm
      rw [← List.take_append_drop (i + 1) ls, htk, List.append_assoc, List.nodup_append] at hnd
      exact hnd.2.2 c hm c (by simp) rfl
    refine ⟨_, rfl, _, rfl, x, d, c, rfl, hx.ex e2, hd, fun b vs v H4 e4 hb hv => ?_⟩
    refine ⟨1, rfl, ix_l (v := v) (sq_of hb) atI_lastX ?_⟩
    have hk4 := e4 _ _ hpk
    refine ⟨_, rfl, _, rfl, set_k (k := .inr (ch c)) hk4 (by rw [htab.len, List.length_take, sizeLine_eq]; omega) ?_⟩
    have tp : Tp H4 (upd H4 p (.dK (putK kvs (.inr (ch c)) v))) := Tp.upd (by rw [hk4]; trivial)
    refine ⟨_, _, rfl, (e2.trans e4).mut hp, upd_same, ?_⟩
    rw [htk]
    exact (htab.imp fun c v q => (q.ex e4).tp tp).put hfresh (hv.tp tp)
  · rintro σ H2 ⟨t, kvs, rfl, e2, hpk, htab⟩
    rw [List.take_of_length_le (by simp [tx])] at htab
    exact ⟨_, rfl, q p H2 e2 ⟨kvs, ls, hpk, htab, hls⟩⟩
end
end L2
set_option Elab.async false
set_option linter.all false
set_option maxRecDepth 100000
set_option maxHeartbeats 4000000
namespace L2
open PySem PySem.Spec PyProof.Rows Evl
/-! ### keys -/
abbrev kRow (r : List Int) : NestedKey := .tup (r.map NestedKey.num)
theorem datas_nums : ∀ r : List Int, NestedKey.datas (r.map NestedKey.num) = r.map PyData.int
  | [] => rfl
  | a :: r => by
    show NestedKey.data (.num a) :: NestedKey.datas (r.map NestedKey.num) = _
    rw [datas_nums r]; rfl
theorem data_row (r : List Int) : (kRow r).data = dRow r := by
  show PyData.tuple (NestedKey.datas (r.map NestedKey.num)) = _
  rw [datas_nums]
theorem depth_nums : ∀ r : List Int, NestedKey.depthAll (r.map NestedKey.num) = 0
  | [] => rfl
  | a :: r => by
    show max 0 (NestedKey.depthAll (r.map NestedKey.num)) = 0
    rw [depth_nums r]; rfl
theorem depth_row (r : List Int) : (kRow r).depth = 1 := by
  show NestedKey.depthAll (r.map NestedKey.num) + 1 = 1
  rw [depth_nums]
theorem nums_inj : ∀ {a b : List Int}, a.map NestedKey.num = b.map NestedKey.num → a = b
  | [], [], _ => rfl
  | [], _ :: _, h => by cases h
  | _ :: _, [], h => by cases h
  | a :: as, b :: bs, h => by
    rw [List.map_cons, List.map_cons] at h
    injection h with h1 h2
    injection h1 with h1
    rw [h1, nums_inj h2]
theorem kRow_inj {a b : List Int} (h : kRow a = kRow b) : a = b := by
  injection h with h
  exact nums_inj h
/-- rows as keys -/
def eRow : Emb (List Int) where
  key := kRow
  inj := fun _ _ h => kRow_inj h
  tup := fun _ => ⟨_, rfl⟩
  dep := fun a => by rw [depth_row]; decide
  flt := fun a => by rw [data_row]; exact flt_row a
/-- a standing: (memory, row) -/
abbrev Std := Int × List Int
abbrev kStd (s : Std) : NestedKey := .tup [.num s.1, kRow s.2]
abbrev dStd (s : Std) : PyData := .tuple [.int s.1, dRow s.2]
theorem data_std (s : Std) : (kStd s).data = dStd s := by
  show PyData.tuple [.int s.1, (kRow s.2).data] = _
  rw [data_row]
def eStd : Emb Std where
  key := kStd
  inj := fun a b h => by
    injection h with h
    injection h with h1 h2
    injection h2 with h2 _
    injection h1 with h1
    exact Prod.ext h1 (kRow_inj h2)
  tup := fun _ => ⟨_, rfl⟩
  dep := fun a => by
    show max 0 (max (kRow a.2).depth 0) + 1 ≤ 8
    rw [depth_row]; decide
  flt := fun a => by rw [data_std]; exact ⟨trivial, flt_row a.2, trivial⟩
/-- a way on: (letter, standing) -/
abbrev Wy := Nat × Std
abbrev kWy (s : Wy) : NestedKey := .tup [.text (ch s.1), kStd s.2]
abbrev dWy (s : Wy) : PyData := .tuple [.str (ch s.1), dStd s.2]
theorem data_wy (s : Wy) : (kWy s).data = dWy s := by
  show PyData.tuple [.str (ch s.1), (kStd s.2).data] = _
  rw [data_std]
def eWy : Emb Wy where
  key := kWy
  inj := fun a b h => by
    injection h with h
    injection h with h1 h2
    injection h2 with h2 _
    injection h1 with h1
    exact Prod.ext (ch_inj h1) (eStd.inj _ _ h2)
  tup := fun _ => ⟨_, rfl⟩
  dep := fun a => by
    show max 0 (max (kStd a.2).depth 0) + 1 ≤ 8
    have : (kStd a.2).depth = 2 := by
      show max 0 (max (kRow a.2.2).depth 0) + 1 = 2
      rw [depth_row]; rfl
    rw [this]; decide
  flt := fun a => by rw [data_wy]; exact ⟨trivial, ⟨trivial, flt_row a.2.2, trivial⟩, trivial⟩
theorem Dt.kr {H : Hp} {v : V} {r : List Int} (h : Dt H v (dRow r)) : Dt H v (eRow.key r).data := by rw [show (eRow.key r).data = dRow r from data_row r]; exact h
theorem Dt.ks {H : Hp} {v : V} {s : Std} (h : Dt H v (dStd s)) : Dt H v (eStd.key s).data := by rw [show (eStd.key s).data = dStd s from data_std s]; exact h
theorem Dt.kw {H : Hp} {v : V} {s : Wy} (h : Dt H v (dWy s)) : Dt H v (eWy.key s).data := by rw [show (eWy.key s).data = dWy s from data_wy s]; exact h
theorem Dt.rk {H : Hp} {v : V} {r : List Int} (h : Dt H v (eRow.key r).data) : Dt H v (dRow r) := by rw [show (eRow.key r).data = dRow r from data_row r] at h; exact h
theorem Dt.sk {H : Hp} {v : V} {s : Std} (h : Dt H v (eStd.key s).data) : Dt H v (dStd s) := by rw [show (eStd.key s).data = dStd s from data_std s] at h; exact h
theorem Dt.wk {H : Hp} {v : V} {s : Wy} (h : Dt H v (eWy.key s).data) : Dt H v (dWy s) := by rw [show (eWy.key s).data = dWy s from data_wy s] at h; exact h
theorem tupN_v {xs : List V} {H : Hp} {Q : VK} (z : xs.length ≤ 100) (q : ∀ p o, H p = none → o.dict = none → Q (.ref p) (upd H p (.frz o (.tup xs)))) : rNewT xs H Q := by
  unfold rNewT
  exact ⟨by rw [sizeLine_eq]; omega, q⟩
section
variable {P : Program} {w : World} {K : PySem.W.Frag} {mg : Str → Option Value} {base : Heap} {f : Addr} {fd : FuncData} {cl : Cls6}
abbrev s__law_heads : Stmt := top 92
abbrev N__law_heads : List Str := ["_law_stage", "_law_moves_here", "_law_most", "_law_letters_here", "_law_rows", "_law_words", "_law_at", "_law_letter_here", "_law_found"]
theorem sc__law_heads : FnScope N__law_heads ["_law_stage", "_law_moves_here", "_law_most"] (defScope s__law_heads) := ⟨rfl, rfl, rfl, by decide +kernel, rfl, by decide +kernel, by decide +kernel⟩
def sp__law_heads (K : PySem.W.Frag) : Sp := fun vs H Q _ => ∃ (mv : Addr) (d : Wd), vs = [.int d.st, .ref mv, .int 30] ∧ MvAt H mv d ∧ WdOk d ∧ ∀ a o l x ys H', Ex H H' → H' a = some (.frz o (.tup [.ref l, x])) → H' l = some (.lst ys) → Q (.ref a) H'
/-- rows found so far, their words -/
structure HdI (P : Program) (w : World) (K : PySem.W.Frag) (n : Nat) (R W : Addr) (rs : List (List Int)) (H : Hp) : Prop where
  rl : DL H R (rs.map dRow)
  pm : ∀ r ∈ rs, Pm n r
  wd : ∃ kvs : List (List Int × V), ND eRow P w K H W kvs ∧ kvs.length = rs.length ∧ (∀ r ∈ rs, (valV kvs r).isSome = true) ∧ ∀ r v, valV kvs r = some v → ∃ z, v = .str (tx z) ∧ z.length ≤ kvs.length
  len : rs.length ≤ 30
theorem HdI.ex {n : Nat} {R W : Addr} {rs : List (List Int)} {H H' : Hp} (h : HdI P w K n R W rs H) (e : Ex H H') : HdI P w K n R W rs H' := by
  obtain ⟨h1, h2, ⟨kvs, h3, h4⟩, h5⟩ := h
  exact ⟨h1.ex e, h2, ⟨kvs, h3.ex e, h4⟩, h5⟩
def HdW (P : Program) (w : World) (K : PySem.W.Frag) (d : Wd) (mv L R W : Addr) (ms : List Nat) (H : Hp) (m : Nat) (σ : St) (H2 : Hp) : Prop :=
  ∃ (at_ : Nat) (rs : List (List Int)) (t1 t2 : Option V), σ = [some (.int d.st), some (.ref mv), some (.int 30), some (.ref L), some (.ref R), some (.ref W), some (.int at_), t1, t2] ∧ Ex H H2 ∧ H2 L = some (.lst (ms.map fun c => V.str (ch c))) ∧ HdI P w K d.st R W rs H2 ∧ at_ ≤ rs.length ∧ m = 31 - at_
theorem ok__law_heads  (T : Txt K mg cl) (F : FnP K "_law_heads" "_law_heads" s__law_heads [] f fd) (G__law_rounds : GDef P w K mg base "_law_rounds" 1 ["_law_stage"] [] (sp__law_rounds)) (G__law_moved : GDef P w K mg base "_law_moved" 1 ["_law_row_here", "_law_move"] [] ((sp__law_moved K))) : FnOk P w K mg base CX0 2 f fd ["_law_stage", "_law_moves_here", "_law_most"] ((sp__law_heads K)) := by
  refine F.ok sc__law_heads (fun vs H Q E h => ?_) (fun cdv A outer s H vs Q E hr h => ?_)
  · unfold sp__law_heads at h; (repeat obtain ⟨_, h⟩ := h); subst_vars; rfl
  have hu := hr.units
  refine ⟨_, PSs.nox (pss_cons (ps_set (i := 3) sc__law_heads.nd rfl (Or.inl rfl) (pe_callB (call_sortedD rfl) (by rfl) T.b_sorted (by decide +kernel) (pa_cons (pv 1) pa_nil)))
      (pss_cons (ps_set (i := 4) sc__law_heads.nd rfl (Or.inl rfl) (pe_lst (pa_cons (pe_g G__law_rounds hr (pa_cons (pv 0) pa_nil)) pa_nil)))
      (pss_cons (ps_set (i := 5) sc__law_heads.nd rfl (Or.inl rfl) (pe_dispN hu (pe_ix (ix_A (P := P) (w := w) (K := K) hu) (pv 4) pe_int (fun _ _ => rfl)) pe_str))
      (pss_cons (ps_set (i := 6) sc__law_heads.nd rfl (Or.inl rfl) pe_int)
      (pss_cons (ps_while PassesOwn.never (pt_cmpR op_lt (pv 6) (pe_callB (call_lenA (P := P) (w := w) (K := K)) (by rfl) T.b_len (by decide +kernel) (pa_cons (pv 4) pa_nil)) (nomark _)) (pss_cons (ps_for PassesOwn.never rfl (pi_list (pv 3)) (pg_name (i := 7) sc__law_heads.nd rfl (Or.inl rfl)) (pss_cons (ps_set (i := 8) sc__law_heads.nd rfl (Or.inl rfl) (pe_g G__law_moved hr (pa_cons (pe_ix (ix_A (P := P) (w := w) (K := K) hu) (pv 4) (pv 6) (fun _ _ => rfl)) (pa_cons (pe_ix (ix_A (P := P) (w := w) (K := K) hu) (pv 1) (pv 7) (fun _ _ => rfl)) pa_nil))))
      (pss_one (ps_if (pt_cmpR (op_notInA (P := P) (w := w) (K := K) hu) (pv 8) (pv 5) (by rfl)) (pss_cons (ps_if (pt_cmpR (op_eqA (K := K) hu) (pe_callB (call_lenA (P := P) (w := w) (K := K)) (by rfl) T.b_len (by decide +kernel) (pa_cons (pv 4) pa_nil)) (pv 2) (nomark _)) (pss_one (ps_ret (pe_tupN (pa_cons (pe_lst pa_nil) (pa_cons pe_dnewK pa_nil))))) pss_nil)
      (pss_cons (ps_asg (pe_op (op_addA (K := K)) (pe_ix (ix_A (P := P) (w := w) (K := K) hu) (pv 5) (pe_ix (ix_A (P := P) (w := w) (K := K) hu) (pv 4) (pv 6) (fun _ _ => rfl)) (fun _ _ => rfl)) (pv 7)) (pg_sub (pv 5) (pv 8) (set_A (P := P) (w := w) (K := K) hu)))
      (pss_one (ps_expr (pe_bm PySem.F.plainAttrs_list PySem.F.slot_list_append PySem.F.type_list_append mt_append (pv 4) (pa_cons (pv 8) pa_nil)))))) pss_nil))))
      (pss_one (ps_set (i := 6) sc__law_heads.nd rfl (Or.inl rfl) (pe_op (op_addA (K := K)) (pv 6) pe_int)))))
      (pss_one (ps_ret (pe_tupN (pa_cons (pv 4) (pa_cons (pv 5) pa_nil)))))))))), ?_⟩
  obtain ⟨mv, d, rfl, hmv, hd, q⟩ := h
  have h8 := hd.s8
  obtain ⟨kvs0, ls0, hk0, htab0, hls0⟩ := id hmv
  have hl6 : ls0.length ≤ 6 := by rw [hls0.length_eq]; exact lts_len hd
  refine ⟨_, rfl, mv, kvs0, ls0.map ch, rfl, .inl hk0, htab0.keys, by rw [List.length_map]; omega, fun ys L hys _ hL => ?_⟩
  obtain ⟨ms, hms, rfl⟩ := perm_ch hys
  have hmem : ∀ c ∈ ms, c ∈ lts d := fun c hc => (hls0.mem_iff).mp ((hms.mem_iff).mp hc)
  have e1 : Ex H (upd H L (.lst ((ms.map ch).map V.str))) := Ex.new hL
  have eL0 : (ms.map ch).map V.str = ms.map fun c => V.str (ch c) := by rw [List.map_map]; rfl
  refine ⟨_, rfl, d.st, rfl, h8, fun v1 H2 e2 hv1 => ⟨by show 1 ≤ sizeLine; decide, fun R hR => ?_⟩⟩
  have e3 : Ex H2 (upd H2 R (.lst [v1])) := Ex.new hR
  refine fun W hW hsm => ⟨_, rfl, ix_l (v := v1) (sq_of (by rw [upd_ne (ne_of_none (upd_same (H := H2) (a := R)) hW)]; exact upd_same)) rfl ?_⟩
  have e4 : Ex (upd H2 R (.lst [v1])) (upd (upd H2 R (.lst [v1])) W (NdO P w W [])) := Ex.new hW
  refine ⟨List Int, inferInstance, eRow, rgI d.st, upd_same, ((hv1.ex e3).ex e4).kr, fun o hnd => ?_⟩
  rw [upd_upd] at hnd ⊢
  have e5 : Ex (upd H2 R (.lst [v1])) (upd (upd H2 R (.lst [v1])) W o) := Ex.new hW
  have nL : ∀ X : Hp, Ex (upd H2 R (.lst [v1])) X → X L = some (.lst (ms.map fun c => V.str (ch c))) := fun X e => by rw [← eL0]; exact e _ _ (e3 _ _ (e2 _ _ upd_same))
  have nR0 : H R = none := fresh_back (e1.trans e2) hR
  have nW0 : H W = none := fresh_back ((e1.trans e2).trans e3) hW
  refine ⟨HdW P w K d mv L R W ms H, ⟨31, 0, [rgI d.st], none, none, rfl, ((e1.trans e2).trans e3).trans e5, nL _ e5, ⟨⟨[v1], e5 _ _ upd_same, .cons ((hv1.ex e3).ex e5) .nil⟩, by simpa using rgI_pm d.st, ⟨[(rgI d.st, .str "")], hnd, rfl, ?_, ?_⟩, by simp⟩, Nat.zero_le _, rfl⟩, ?_⟩
  · intro r hr
    rw [List.mem_singleton.mp hr]
    rw [valV_pos rfl]; rfl
  · intro r v hv
    by_cases e : rgI d.st = r
    · rw [valV_pos e] at hv
      cases hv
      exact ⟨[], rfl, Nat.zero_le _⟩
    · rw [valV_neg e] at hv
      cases hv
  rintro m σ H3 ⟨at_, rs, t1, t2, rfl, e6, hL6, hI, hat, rfl⟩
  obtain ⟨vs6, hvs6, hvd6⟩ := hI.rl
  have hvl : vs6.length = rs.length := by have := hvd6.len; rw [List.length_map] at this; exact this
  refine ⟨_, rfl, _, rfl, len_l (sq_of hvs6) ⟨_, _, rfl, rfl, _, rfl, iB (b := decide (at_ < rs.length)) (by rw [Bool.eq_iff_iff, hvl]; simp) (fun e => ?_) (fun e => ?_)⟩⟩
  rotate_left
  · refine ⟨_, rfl, _, rfl, tupN_v (by show 2 ≤ 100; decide) fun p o hp ho => ?_⟩
    exact q p o R (.ref W) vs6 _ (e6.trans (Ex.new hp)) upd_same (Ex.new hp _ _ hvs6)
  have hatl : at_ < rs.length := of_decide_eq_true e
  have hlen30 := hI.len
  refine ⟨fun σ' H' => ∃ m', m' < 31 - at_ ∧ HdW P w K d mv L R W ms H m' σ' H', fun _ _ h => h, ?_⟩
  refine ⟨_, rfl, L, rfl, ⟨_, sq_of hL6⟩, ?_⟩
  refine for_it (walk_list (xs := ms.map fun c => V.str (ch c))) (fun i σ H4 => ∃ (rs : List (List Int)) (t1 t2 : Option V), σ = [some (.int d.st), some (.ref mv), some (.int 30), some (.ref L), some (.ref R), some (.ref W), some (.int at_), t1, t2] ∧ Ex H H4 ∧ H4 L = some (.lst (ms.map fun c => V.str (ch c))) ∧ HdI P w K d.st R W rs H4 ∧ at_ < rs.length)
    ⟨rs, t1, t2, rfl, e6, hL6, hI, hatl⟩ (fun i σ H2 _ ⟨_, _, _, _, _, h, _⟩ => sq_of h) ?_ ?_
  · rintro i y σ H4 H5 hi ⟨rs, t1, t2, rfl, e7, hL7, hI7, hat7⟩ ⟨rfl, hy⟩
    obtain ⟨c, hc, rfl⟩ : ∃ c, ms[i]? = some c ∧ y = V.str (ch c) := by
      rw [List.getElem?_map] at hy
      cases hk : ms[i]? with
      | none => rw [hk] at hy; cases hy
      | some c => rw [hk] at hy; exact ⟨c, rfl, (Option.some.inj hy).symm⟩
    have hcl := hmem c (List.mem_of_getElem? hc)
    obtain ⟨kvs, ls, hk, htab, hls⟩ := hmv.ex e7
    obtain ⟨v8, hv8, hd8⟩ := htab.get ((hls.mem_iff).mpr hcl)
    obtain ⟨vs7, hvs7, hvd7⟩ := hI7.rl
    obtain ⟨r, hr⟩ : ∃ r, rs[at_]? = some r := ⟨_, List.getElem?_eq_getElem hat7⟩
    obtain ⟨v9, hv9, hd9⟩ := hvd7.at (i := at_) (d := dRow r) (by rw [List.getElem?_map, hr]; rfl)
    have hrm := List.mem_of_getElem? hr
    have hpr := hI7.pm r hrm
    refine ⟨_, rfl, _, rfl, ix_l (sq_of hvs7) (atN hv9) ⟨_, rfl, _, rfl, ix_k (k := .inr (ch c)) (.inl hk) hv8 ?_⟩⟩
    refine ⟨v9, v8, r, mvD d c, rfl, hd9.dp, hd8.dp, mv_bound hpr hdRow_pm, by rw [(mvD_pm d c).1]; exact h8, fun v10 H6 e8 hv10 => ?_⟩
    have hI8 := hI7.ex e8
    obtain ⟨kvs8, hnd8, hkl8, hks8, hkw8⟩ := hI8.wd
    refine ⟨_, rfl, _, rfl, ni_n hnd8.r hv10.kr.dp ⟨_, rfl, iB (b := !(valV kvs8 (tms r (mvD d c))).isSome) rfl (fun e => ?_) (fun e => ?_)⟩⟩
    rotate_left
    · exact ⟨rs, _, _, rfl, e7.trans e8, e8 _ _ hL7, hI8, hat7⟩
    have hnone : valV kvs8 (tms r (mvD d c)) = none := by
      cases h : valV kvs8 (tms r (mvD d c)) with
      | none => rfl
      | some v => rw [h] at e; cases e
    obtain ⟨vs8, hvs8, hvd8⟩ := hI8.rl
    have hvl8 : vs8.length = rs.length := by have := hvd8.len; rw [List.length_map] at this; exact this
    refine ⟨_, rfl, len_l (sq_of hvs8) ⟨_, rfl, eq_i ⟨_, rfl, iB (b := decide (rs.length = 30)) (by rw [Bool.eq_iff_iff, hvl8]; simp; omega) (fun e => ?_) (fun e => ?_)⟩⟩⟩
    · refine ⟨by show 0 ≤ sizeLine; decide, fun l hl p hp => tupN_v (by show 2 ≤ 100; decide) fun a o ha ho => ?_⟩
      have E := (Ex.new (o := HO.lst []) hl).trans (Ex.new (o := HO.dK []) hp)
      exact q a o l (.ref p) [] _ (((e7.trans e8).trans E).trans (Ex.new ha)) upd_same (Ex.new ha _ _ (Ex.new hp _ _ upd_same))
    have hne : rs.length ≠ 30 := of_decide_eq_false e
    have hl8 := hI8.len
    have hd9' : Dt H6 v9 (dRow r) := hd9.ex e8
    have hv9' : vs8[at_]? = some v9 := by
      have : vs8 = vs7 := by
        have h1 := e8 _ _ hvs7
        rw [hvs8] at h1
        injection h1 with h1
        injection h1
      rw [this]; exact hv9
    obtain ⟨v11, hv11⟩ := Option.isSome_iff_exists.mp (hks8 r hrm)
    obtain ⟨z, rfl, hz⟩ := hkw8 r v11 hv11
    refine ⟨_, rfl, _, rfl, _, rfl, ix_l (sq_of hvs8) (atN hv9') (ix_n hnd8.r hd9'.kr.dp hv11 ⟨_, rfl, add_s (by rw [tx_length]; show _ + 1 ≤ _; rw [sizeLine_eq]; omega) ?_⟩)⟩
    rw [tx_ch]
    refine ⟨_, rfl, _, rfl, set_n hnd8 (by rw [sizeLine_eq]; omega) hv10.kr fun o9 hnd9 => ?_⟩
    have nWl : (upd H6 W o9) R = some (.lst vs8) := by
      have ne : R ≠ W := fun z => by
        obtain ⟨xs, h1, _⟩ := hnd8
        rw [← z, hvs8] at h1; cases h1
      rw [upd_ne ne]; exact hvs8
    have tp9 : Tp H6 (upd H6 W o9) := Tp.upd hnd8.sft
    have ne : W ≠ R := fun z => by
      obtain ⟨xs, h1, _⟩ := hnd8
      rw [z, hvs8] at h1; cases h1
    refine ⟨_, rfl, .inl ⟨rfl, _, sq_of nWl⟩, _, rfl, R, vs8, _, rfl, rfl, nWl, by rw [sizeLine_eq]; omega, ?_⟩
    have tp10 : Tp (upd H6 W o9) (upd (upd H6 W o9) R (.lst (vs8 ++ [v10]))) := Tp.upd (Sft.lst nWl)
    have E9 : Ex H (upd (upd H6 W o9) R (.lst (vs8 ++ [v10]))) := ((e7.trans e8).mut nW0).mut nR0
    have nLW : L ≠ W := fun z => by
      obtain ⟨xs, h1, _⟩ := hnd8
      have := e8 _ _ hL7
      rw [z, h1] at this; cases this
    have nLR : L ≠ R := fun z => by
      have h1 := e3 _ _ (e2 _ _ (upd_same (H := H) (a := L) (o := .lst ((ms.map ch).map V.str))))
      have h2 : H2 R = none := hR
      rw [← z] at h2
      have h3 := e2 _ _ (upd_same (H := H) (a := L) (o := .lst ((ms.map ch).map V.str)))
      rw [h2] at h3; cases h3
    refine ⟨rs ++ [tms r (mvD d c)], _, _, rfl, E9, by rw [upd_ne nLR, upd_ne nLW]; exact e8 _ _ hL7, ⟨⟨_, upd_same, ?_⟩, ?_, ⟨_, hnd9.at (upd_ne ne) tp10, ?_, ?_, ?_⟩, by simp; omega⟩, by simp; omega⟩
    · rw [List.map_append]
      exact ((hvd8.tp tp9).tp tp10).snoc ((hv10.tp tp9).tp tp10)
    · intro x hx
      rcases List.mem_append.mp hx with hx | hx
      · exact hI8.pm x hx
      · rw [List.mem_singleton.mp hx]; exact hpr.tms hdRow_pm
    · rw [putK_new _ hnone, List.length_append, List.length_append, hkl8]; rfl
    · intro x hx
      rw [valV_put]
      by_cases e : x = tms r (mvD d c)
      · rw [if_pos e]; rfl
      · rw [if_neg e]
        rcases List.mem_append.mp hx with hx | hx
        · exact hks8 x hx
        · exact absurd (List.mem_singleton.mp hx) e
    · intro x v hv
      rw [valV_put] at hv
      rw [putK_new _ hnone, List.length_append]
      by_cases e : x = tms r (mvD d c)
      · rw [if_pos e] at hv
        cases hv
        exact ⟨_, rfl, by simp; omega⟩
      · rw [if_neg e] at hv
        obtain ⟨z2, h1, h2⟩ := hkw8 x v hv
        exact ⟨z2, h1, by simp; omega⟩
  · rintro σ H4 ⟨rs, t1, t2, rfl, e7, hL7, hI7, hat7⟩
    have := hI7.len
    exact ⟨_, rfl, add_i ⟨30 - at_, by omega, at_ + 1, rs, t1, t2, rfl, e7, hL7, hI7, by omega, by omega⟩⟩
end
end L2
set_option Elab.async false
set_option linter.all false
set_option maxRecDepth 100000
set_option maxHeartbeats 4000000
namespace L2
open PySem PySem.Spec PyProof.Rows Evl
/-- data of a table -/
abbrev dCell (x : Nat × Nat) : PyData := .tuple [.str (ch x.1), .int x.2]
abbrev dCells (r : List (Nat × Nat)) : PyData := .tuple (r.map dCell)
abbrev dTb (tb : List (List (Nat × Nat))) : PyData := .tuple (tb.map dCells)
section
variable {P : Program} {w : World} {K : PySem.W.Frag} {mg : Str → Option Value} {base : Heap} {f : Addr} {fd : FuncData} {cl : Cls6}
theorem ix_v {H : Hp} {a : Addr} {xs : List V} {i : Int} {v : V} {Q : VK} (h : SqT K H a xs) (e : atI xs i = some v) (q : Q v H) : rIxA P w K (.ref a) (.int i) H Q := by
  unfold rIxA
  exact .inr (.inl ⟨a, xs, i, v, rfl, rfl, h, e, q⟩)
abbrev s__law_rich_world : Stmt := top 94
abbrev N__law_rich_world : List Str := ["_law_draw_here", "_law_least", "_law_world_here"]
theorem sc__law_rich_world : FnScope N__law_rich_world ["_law_draw_here", "_law_least"] (defScope s__law_rich_world) := ⟨rfl, rfl, rfl, by decide +kernel, rfl, by decide +kernel, by decide +kernel⟩
def sp__law_rich_world (K : PySem.W.Frag) : Sp := fun vs H Q _ => ∃ (a : Addr) (l : Nat), vs = [.ref a, .int l] ∧ DrawAt K H a ∧ l ≤ 1 ∧ ∀ v d H', Ex H H' → WdOk d → Dt H' v (dWorld d) → Q v H'
theorem ok__law_rich_world  (T : Txt K mg cl) (F : FnP K "_law_rich_world" "_law_rich_world" s__law_rich_world [] f fd) (G__law_world : GDef P w K mg base "_law_world" 6 ["_law_draw_here", "_law_least"] [] ((sp__law_world K))) (G__law_heads : GDef P w K mg base "_law_heads" 2 ["_law_stage", "_law_moves_here", "_law_most"] [] ((sp__law_heads K))) (G__law_moves : GDef P w K mg base "_law_moves" 3 ["_law_world_here"] [] ((sp__law_moves K))) (G__law_pick : GDef P w K mg base "_law_pick" 2 ["_law_draw_here", "_law_many"] [] ((sp__law_pick K))) : FnOk P w K mg base CX0 7 f fd ["_law_draw_here", "_law_least"] ((sp__law_rich_world K)) := by
  refine F.ok sc__law_rich_world (fun vs H Q E h => ?_) (fun cdv A outer s H vs Q E hr h => ?_)
  · unfold sp__law_rich_world at h; (repeat obtain ⟨_, h⟩ := h); subst_vars; rfl
  have hu := hr.units
  refine ⟨_, PSs.nox (pss_cons (ps_set (i := 2) sc__law_rich_world.nd rfl (Or.inl rfl) (pe_g G__law_world hr (pa_cons (pv 0) (pa_cons (pv 1) pa_nil))))
      (pss_cons (ps_if (PW.pt (pw_and (pt_cmpR op_lt (pe_callB (call_lenA (P := P) (w := w) (K := K)) (by rfl) T.b_len (by decide +kernel) (pa_cons (pe_ix (ix_A (P := P) (w := w) (K := K) hu) (pe_g G__law_heads hr (pa_cons (pe_ix (ix_A (P := P) (w := w) (K := K) hu) (pv 2) pe_int (fun _ _ => rfl)) (pa_cons (pe_g G__law_moves hr (pa_cons (pv 2) pa_nil)) (pa_cons pe_int pa_nil)))) pe_int (fun _ _ => rfl)) pa_nil)) pe_int (nomark _)) (pw_and1 (pt_cmpR op_gt (pe_g G__law_pick hr (pa_cons (pv 0) (pa_cons pe_int pa_nil))) pe_int (nomark _))))) (pss_one (ps_set (i := 2) sc__law_rich_world.nd rfl (Or.inl rfl) (pe_g G__law_world hr (pa_cons (pv 0) (pa_cons pe_int pa_nil))))) pss_nil)
      (pss_one (ps_ret (pv 2))))), ?_⟩
  obtain ⟨a, l, rfl, ha, hl, q⟩ := h
  refine ⟨_, rfl, _, rfl, a, l, rfl, ha, hl, fun v d H1 e1 hd hv => ?_⟩
  refine ⟨_, rfl, ix_d hv (i := 0) (d := .int d.st) rfl fun v0 hv0 => ?_⟩
  rw [hv0.intI]
  refine ⟨_, rfl, v, d, rfl, hv, hd, fun p H2 e2 hp => ?_⟩
  refine ⟨p, d, rfl, hp, hd, fun b o l x ys H3 e3 hb hly => ?_⟩
  have e13 := (e1.trans e2).trans e3
  refine ix_v (xs := [.ref l, x]) (.inl (.inr ⟨o, hb⟩)) (v := .ref l) rfl (len_l (sq_of hly) ⟨_, _, rfl, rfl, _, rfl, iB (b := decide ((ys.length : Int) < 6)) rfl (fun e => ?_) (fun e => ?_)⟩)
  · refine ⟨_, rfl, a, 4, rfl, ha.ex e13, by decide, fun r hr => ⟨_, _, rfl, rfl, _, rfl, iB (b := decide ((0 : Int) < r)) rfl (fun e => ?_) (fun e => ?_)⟩⟩
    · exact ⟨_, rfl, a, 1, rfl, ha.ex e13, by decide, fun v2 d2 H4 e4 hd2 hv2 => ⟨_, rfl, q v2 d2 H4 (e13.trans e4) hd2 hv2⟩⟩
    · exact ⟨_, rfl, q v d H3 e13 hd ((hv.ex e2).ex e3)⟩
  · exact iF ⟨_, rfl, q v d H3 e13 hd ((hv.ex e2).ex e3)⟩
abbrev s__law_table : Stmt := top 95
abbrev N__law_table : List Str := ["_law_draw_here", "_law_stage", "_law_letters_here", "_law_many", "_law_kind", "_law_table_here", "_law_memory", "_law_one", "_law_cells", "_law_spot", "_law_letter_here", "_law_after"]
theorem sc__law_table : FnScope N__law_table ["_law_draw_here", "_law_stage", "_law_letters_here", "_law_many"] (defScope s__law_table) := ⟨rfl, rfl, rfl, by decide +kernel, rfl, by decide +kernel, by decide +kernel⟩
def sp__law_table (K : PySem.W.Frag) : Sp := fun vs H Q _ => ∃ (a : Addr) (n : Nat) (ls : List Nat) (many : Nat), vs = [.ref a, .int n, .str (tx ls), .int many] ∧ DrawAt K H a ∧ n ≤ 8 ∧ ls ≠ [] ∧ ls.length ≤ 20 ∧ 1 ≤ many ∧ many ≤ 4 ∧ ∀ v tb H', Ex H H' → TbOk n ls many tb → Dt H' v (dTb tb) → Q v H'
/-- a letter picked -/
theorem pick_letter {H : Hp} {a : Addr} {ls : List Nat} {Q : VK} (ha : DrawAt K H a) (hne : ls ≠ []) (hl : ls.length ≤ 20) (q : ∀ c ∈ ls, Q (.str (ch c)) H) : rLenA P w K [.str (tx ls)] H fun x H1 => sp__law_pick K [.ref a, x] H1 (fun y H2 => rIxA P w K (.str (tx ls)) y H2 Q) E0 := by
  have h1 : 1 ≤ ls.length := by cases ls with | nil => exact absurd rfl hne | cons => simp
  refine len_s (by rw [tx_length, sizeLine_eq]; omega) ?_
  rw [tx_length]
  refine ⟨a, _, rfl, ha, by omega, fun r hr => ?_⟩
  obtain ⟨c, hc⟩ : ∃ c, ls[r]? = some c := ⟨ls[r]'(by omega), List.getElem?_eq_getElem (by omega)⟩
  exact ix_s (by rw [tx_length, sizeLine_eq]; omega) (atN (by simpa [tx] using hc)) (q c (List.mem_of_getElem? hc))
theorem ok__law_table  (T : Txt K mg cl) (F : FnP K "_law_table" "_law_table" s__law_table [] f fd) (G__law_pick : GDef P w K mg base "_law_pick" 2 ["_law_draw_here", "_law_many"] [] ((sp__law_pick K))) : FnOk P w K mg base CX0 3 f fd ["_law_draw_here", "_law_stage", "_law_letters_here", "_law_many"] ((sp__law_table K)) := by
  refine F.ok sc__law_table (fun vs H Q E h => ?_) (fun cdv A outer s H vs Q E hr h => ?_)
  · unfold sp__law_table at h; (repeat obtain ⟨_, h⟩ := h); subst_vars; rfl
  have hu := hr.units
  refine ⟨_, PSs.nox (pss_cons (ps_set (i := 4) sc__law_table.nd rfl (Or.inl rfl) (pe_g G__law_pick hr (pa_cons (pv 0) (pa_cons pe_int pa_nil))))
      (pss_cons (ps_set (i := 5) sc__law_table.nd rfl (Or.inl rfl) (pe_lst pa_nil))
      (pss_cons (ps_for PassesOwn.never rfl (pi_range1 (by rfl) T.b_range (pa_cons (pv 3) pa_nil)) (pg_name (i := 6) sc__law_table.nd rfl (Or.inl rfl)) (pss_cons (ps_set (i := 7) sc__law_table.nd rfl (Or.inl rfl) (pe_ix (ix_A (P := P) (w := w) (K := K) hu) (pv 2) (pe_g G__law_pick hr (pa_cons (pv 0) (pa_cons (pe_callB (call_lenA (P := P) (w := w) (K := K)) (by rfl) T.b_len (by decide +kernel) (pa_cons (pv 2) pa_nil)) pa_nil))) (fun _ _ => rfl)))
      (pss_cons (ps_set (i := 8) sc__law_table.nd rfl (Or.inl rfl) (pe_lst pa_nil))
      (pss_cons (ps_for PassesOwn.never rfl (pi_range1 (by rfl) T.b_range (pa_cons (pv 1) pa_nil)) (pg_name (i := 9) sc__law_table.nd rfl (Or.inl rfl)) (pss_cons (ps_set (i := 10) sc__law_table.nd rfl (Or.inl rfl) (pv 7))
      (pss_cons (ps_if (pt_cmpR op_gt (pv 4) pe_int (nomark _)) (pss_one (ps_set (i := 10) sc__law_table.nd rfl (Or.inl rfl) (pe_ix (ix_A (P := P) (w := w) (K := K) hu) (pv 2) (pe_g G__law_pick hr (pa_cons (pv 0) (pa_cons (pe_callB (call_lenA (P := P) (w := w) (K := K)) (by rfl) T.b_len (by decide +kernel) (pa_cons (pv 2) pa_nil)) pa_nil))) (fun _ _ => rfl)))) pss_nil)
      (pss_cons (ps_set (i := 11) sc__law_table.nd rfl (Or.inl rfl) (pe_g G__law_pick hr (pa_cons (pv 0) (pa_cons (pv 3) pa_nil))))
      (pss_cons (ps_if (pt_cmpR (op_eqA (K := K) hu) (pv 4) pe_int (nomark _)) (pss_one (ps_set (i := 11) sc__law_table.nd rfl (Or.inl rfl) (pe_op op_mod (pe_callTy call_int1 (by rfl) T.b_int (by decide +kernel) (pa_cons (pe_op (op_addA (K := K)) (pv 6) pe_int) pa_nil)) (pv 3)))) pss_nil)
      (pss_one (ps_expr (pe_bm PySem.F.plainAttrs_list PySem.F.slot_list_append PySem.F.type_list_append mt_append (pv 8) (pa_cons (pe_tupN (pa_cons (pv 10) (pa_cons (pv 11) pa_nil))) pa_nil)))))))))
      (pss_one (ps_expr (pe_bm PySem.F.plainAttrs_list PySem.F.slot_list_append PySem.F.type_list_append mt_append (pv 5) (pa_cons (pe_callTy (call_tupN (K := K)) (by rfl) T.b_tuple (by decide +kernel) (pa_cons (pv 8) pa_nil)) pa_nil))))))))
      (pss_one (ps_ret (pe_callTy (call_tupN (K := K)) (by rfl) T.b_tuple (by decide +kernel) (pa_cons (pv 5) pa_nil))))))), ?_⟩
  obtain ⟨a, n, ls, many, rfl, ha, hn, hne, hl, hm1, hm4, q⟩ := h
  refine ⟨_, rfl, a, 4, rfl, ha, by decide, fun kd hkd => ⟨by show 0 ≤ sizeLine; decide, fun T nT => ⟨_, rfl, many, rfl, by omega, by omega, ?_⟩⟩⟩
  refine for_it (walk_range (lo := 0) (n := (many : Int).toNat)) (fun i σ H1 => ∃ (x1 x2 x3 x4 x5 x6 : Option V) (tb : List (List (Nat × Nat))), σ = [some (.ref a), some (.int n), some (.str (tx ls)), some (.int many), some (.int kd), some (.ref T), x1, x2, x3, x4, x5, x6] ∧ Ex H H1 ∧ DL H1 T (tb.map dCells) ∧ tb.length = i ∧ (∀ r ∈ tb, r.length = n) ∧ (∀ r ∈ tb, ∀ x ∈ r, x.1 ∈ ls ∧ x.2 < many))
    ⟨none, none, none, none, none, none, [], rfl, Ex.new nT, ⟨[], upd_same, .nil⟩, rfl, (fun _ h => by cases h), fun _ h => by cases h⟩ (fun _ _ _ _ _ => trivial) ?_ ?_
  · rintro i y σ H1 H2 hi ⟨x1, x2, x3, x4, x5, x6, tb, rfl, e1, hT, htl, htr, htc⟩ ⟨rfl, rfl⟩
    refine ⟨_, rfl, _, rfl, _, rfl, pick_letter (ha.ex e1) hne hl fun one hone => ?_⟩
    refine ⟨by show 0 ≤ sizeLine; decide, fun C nC => ⟨_, rfl, n, rfl, by omega, by omega, ?_⟩⟩
    have nC0 : H C = none := fresh_back e1 nC
    have neTC : T ≠ C := fun z => by obtain ⟨vs, h1, _⟩ := hT; rw [z, nC] at h1; cases h1
    have e2 : Ex H2 (upd H2 C (.lst [])) := Ex.new nC
    refine for_it (walk_range (lo := 0) (n := (n : Int).toNat)) (fun j σ H3 => ∃ (x3 x4 x5 : Option V) (r : List (Nat × Nat)), σ = [some (.ref a), some (.int n), some (.str (tx ls)), some (.int many), some (.int kd), some (.ref T), some (.int (0 + (i : Int))), some (.str (ch one)), some (.ref C), x3, x4, x5] ∧ Ex H2 H3 ∧ DL H3 C (r.map dCell) ∧ r.length = j ∧ (∀ x ∈ r, x.1 ∈ ls ∧ x.2 < many))
      ⟨x4, x5, x6, [], rfl, e2, ⟨[], upd_same, .nil⟩, rfl, fun _ h => by cases h⟩ (fun _ _ _ _ _ => trivial) ?_ ?_
    · rintro j y σ H3 H4 hj ⟨y3, y4, y5, r, rfl, e3, hC, hrl, hrc⟩ ⟨rfl, rfl⟩
      refine ⟨_, rfl, ?_⟩
      refine gN_ ?_
      dsimp only
      have hda := (ha.ex e1).ex e3
      refine seqK (fun σ' H' => ∃ c, c ∈ ls ∧ σ' = [some (.ref a), some (.int n), some (.str (tx ls)), some (.int many), some (.int kd), some (.ref T), some (.int (0 + (i : Int))), some (.str (ch one)), some (.ref C), some (.int (0 + (j : Int))), some (.str (ch c)), y5] ∧ H' = H4) ?_ fun k => ?_
      · rintro σ' H' ⟨c, hc, rfl, rfl⟩
        refine ⟨_, rfl, _, rfl, a, many, rfl, hda, by omega, fun r1 hr1 => ?_⟩
        refine gN_ ?_
        dsimp only
        refine seqK (fun σ' H'' => ∃ m : Nat, m < many ∧ σ' = [some (.ref a), some (.int n), some (.str (tx ls)), some (.int many), some (.int kd), some (.ref T), some (.int (0 + (i : Int))), some (.str (ch one)), some (.ref C), some (.int (0 + (j : Int))), some (.str (ch c)), some (.int m)] ∧ H'' = H') ?_ fun k => ?_
        · rintro σ' H'' ⟨m, hm, rfl, rfl⟩
          refine ⟨_, rfl, .inl ⟨rfl, hC.sq⟩, _, rfl, _, rfl, tupN_d (ds := [.str (ch c), .int m]) (.cons (.str _) (.cons (.int _) .nil)) (by show 2 ≤ 100; decide) fun v5 H5 e5 hv5 => ?_⟩
          refine (hC.ex e5).app (d := dCell (c, m)) (e3.trans e5) nC hv5 (by simp; omega) fun H6 e6 hC6 _ _ => ⟨_, _, _, r ++ [(c, m)], rfl, e6, by rw [List.map_append]; exact hC6, by simp [hrl], ?_⟩
          intro x hx
          rcases List.mem_append.mp hx with hx | hx
          · exact hrc x hx
          · rw [List.mem_singleton.mp hx]; exact ⟨hc, hm⟩
        · refine ⟨_, rfl, eq_i ⟨_, rfl, iB (b := decide ((kd : Int) = 1)) rfl (fun _ => ?_) (fun _ => ?_)⟩⟩
          · refine ⟨_, rfl, add_i (.inl ⟨_, rfl, _, rfl, _, _, rfl, rfl, (by show (0 : Int) < many; omega), ?_⟩)⟩
            have hnn : 0 ≤ (0 + (i : Int) + 1) % (many : Int) := Int.emod_nonneg _ (by omega)
            have hlt : (0 + (i : Int) + 1) % (many : Int) < many := Int.emod_lt_of_pos _ (by omega)
            refine k _ _ ⟨((0 + (i : Int) + 1) % (many : Int)).toNat, by omega, ?_, rfl⟩
            rw [Int.toNat_of_nonneg hnn]
            rfl
          · exact k _ _ ⟨r1, by omega, rfl, rfl⟩
      · refine ⟨_, rfl, _, _, rfl, rfl, _, rfl, iB (b := decide ((0 : Int) < kd)) rfl (fun _ => ?_) (fun _ => ?_)⟩
        · refine ⟨_, rfl, _, rfl, _, rfl, pick_letter hda hne hl fun c hc => ?_⟩
          exact k _ _ ⟨c, hc, rfl, rfl⟩
        · exact k _ _ ⟨one, hone, rfl, rfl⟩
    · rintro σ H3 ⟨y3, y4, y5, r, rfl, e3, ⟨vs, hC, hCd⟩, hrl, hrc⟩
      refine ⟨_, rfl, .inl ⟨rfl, (hT.ex e3).sq⟩, _, rfl, tup_d (sq_of hC) hCd fun v4 H4 e4 hv4 => ?_⟩
      refine ((hT.ex e3).ex e4).app (d := dCells r) ((e1.trans e3).trans e4) nT hv4 (by simp; omega) fun H6 e6 hT6 _ _ => ⟨_, _, _, _, _, _, tb ++ [r], rfl, e6, by rw [List.map_append]; exact hT6, by simp [htl], ?_, ?_⟩
      · intro x hx
        rcases List.mem_append.mp hx with hx | hx
        · exact htr x hx
        · rw [List.mem_singleton.mp hx]; simpa using hrl
      · intro x hx
        rcases List.mem_append.mp hx with hx | hx
        · exact htc x hx
        · rw [List.mem_singleton.mp hx]; exact hrc
  · rintro σ H3 ⟨x1, x2, x3, x4, x5, x6, tb, rfl, e1, ⟨vs, hT, hTd⟩, htl, htr, htc⟩
    exact ⟨_, rfl, tup_d (sq_of hT) hTd fun v4 H4 e4 hv4 => q v4 tb H4 (e1.trans e4) ⟨by simpa using htl, htr, htc⟩ hv4⟩
end
end L2
set_option Elab.async false
set_option linter.all false
set_option maxRecDepth 100000
set_option maxHeartbeats 4000000
namespace L2
open PySem PySem.Spec PyProof.Rows Evl
theorem LcN.mk2 {D : Addr} {H1 H H4 : Hp} {Ψ : Nat → List V → Hp → Prop} {i : Nat} {y : V} {acc : List V} (n : H1 D = none) (h : H D = some (.lst acc)) (e1 : Ex H1 H) (e : Ex H H4) (l : acc.length ≤ i) (z : i < sizeLine) (p : Ψ (i + 1) (acc ++ [y]) (upd H4 D (.lst (acc ++ [y])))) : LcN D H1 Ψ i y H4 :=
  ⟨acc, e _ _ h, by omega, acc ++ [y], upd_same, Ex.mut (e1.trans e) n, by simp; omega, p⟩
theorem lc_gen2 {J : It} {n : Nat} {G : Hp → Prop} {Y : Nat → Hp → V → Hp → Prop} {σ : L2.St} (w : Walk J n G Y) {g : TG} {tt : TT} {te : TE} {vs : List Nat} {H1 : Hp} {D : Addr} {Qd : Hp → Prop} (Ψ : Nat → List V → Hp → Prop)
    (nD : H1 D = none) (h0 : Ψ 0 [] (upd H1 D (.lst []))) (hG : ∀ H, Ex H1 H → G H)
    (hs : ∀ i x acc H H', i < n → acc.length ≤ i → H D = some (.lst acc) → Ex H1 H → Ψ i acc H → Y i H x H' → g x (wipe σ vs) H' fun σ2 H2 => wipe σ2 vs = wipe σ vs ∧ tt σ2 H2 fun b H3 =>
      if b = true then te σ2 H3 fun y H4 => LcN D H1 Ψ i y H4 else LcP D H1 Ψ (i + 1) H3)
    (hd : ∀ ys H, Ex H1 H → H D = some (.lst ys) → ys.length ≤ n → Ψ n ys H → Qd H) :
    ∃ W : Nat → Nat → Hp → Prop, (∃ m, W 0 m (upd H1 D (.lst []))) ∧ ∀ i m H, W i m H →
      (J.stop i H ∧ Qd H) ∨ (J.go i H ∧ ∃ Nx : Hp → Prop, (∀ H', Nx H' → ∃ m', m' < m ∧ W (i + 1) m' H') ∧ ∀ x H', J.yld i H x H' → g x (wipe σ vs) H' fun σ2 H2 => wipe σ2 vs = wipe σ vs ∧ tt σ2 H2 fun b H3 =>
        if b = true then te σ2 H3 fun y H4 => ∃ acc, H4 D = some (.lst acc) ∧ acc.length < sizeLine ∧ Nx (upd H4 D (.lst (acc ++ [y]))) else Nx H3) := by
  refine lc_it w (LcP D H1 Ψ) ⟨[], upd_same, Ex.new nD, Nat.le_refl _, h0⟩ (fun i H _ ⟨acc, _, e, _⟩ => hG H e) (fun i x H H' hi p y => ?_) (fun H p => ?_)
  · obtain ⟨acc, h, e, l, q⟩ := p
    exact hs i x acc H H' hi l h e q y
  · obtain ⟨acc, h, e, l, q⟩ := p
    exact hd acc H e h l q
/-- the table of a wheel, being made: lists of cells at ps -/
structure WhI (H : Hp) (T told : Addr) (ps : List Addr) (ts : List Nat) (n : Nat) (ls : List Nat) (many : Nat) (tb : List (List (Nat × Nat))) : Prop where
  hT : H T = some (.lst (ps.map V.ref))
  ht : H told = some (.lst (ts.map fun c => V.str (ch c)))
  nT : T ∉ ps
  nt : told ∉ ps
  nd : ps.Nodup
  dl : ∀ (m : Nat) (p : Addr), ps[m]? = some p → ∃ r, tb[m]? = some r ∧ DL H p (r.map dCell)
  ok : TbOk n ls many tb
  pl : ps.length = many
theorem WhI.ex {H H' : Hp} {T told : Addr} {ps : List Addr} {ts : List Nat} {n : Nat} {ls : List Nat} {many : Nat} {tb : List (List (Nat × Nat))} (h : WhI H T told ps ts n ls many tb) (e : Ex H H') : WhI H' T told ps ts n ls many tb :=
  ⟨e _ _ h.hT, e _ _ h.ht, h.nT, h.nt, h.nd, fun m p hp => by obtain ⟨r, h1, h2⟩ := h.dl m p hp; exact ⟨r, h1, h2.ex e⟩, h.ok, h.pl⟩
theorem WhI.put {H : Hp} {T told : Addr} {ps : List Addr} {ts : List Nat} {n : Nat} {ls : List Nat} {many : Nat} {tb : List (List (Nat × Nat))} (h : WhI H T told ps ts n ls many tb) {m : Nat} {p : Addr} (hp : ps[m]? = some p) {vs : List V} (hv : H p = some (.lst vs)) {k c a : Nat} {v : V}
    (hvd : Dt H v (dCell (c, a))) (hc : c ∈ ls) (ha : a < many) : ∃ tb', WhI (upd H p (.lst (vs.set k v))) T told ps ts n ls many tb' := by
  obtain ⟨r, hr, vs', hv', hd'⟩ := h.dl m p hp
  rw [hv] at hv'
  cases hv'
  have hpm := List.mem_of_getElem? hp
  have tp : Tp H (upd H p (.lst (vs.set k v))) := Tp.upd (Sft.lst hv)
  have hrm := List.mem_of_getElem? hr
  refine ⟨tb.set m (r.set k (c, a)), ?_, ?_, h.nT, h.nt, h.nd, fun m2 p2 hp2 => ?_, ⟨by rw [List.length_set]; exact h.ok.len, fun x hx => ?_, fun x hx => ?_⟩, h.pl⟩
  · rw [upd_ne (fun z => h.nT (by rw [z]; exact hpm))]; exact h.hT
  · rw [upd_ne (fun z => h.nt (by rw [z]; exact hpm))]; exact h.ht
  · by_cases e : m2 = m
    · subst e
      rw [hp] at hp2
      obtain rfl := Option.some.inj hp2
      refine ⟨r.set k (c, a), by rw [List.getElem?_set_self (by exact (List.getElem?_eq_some_iff.mp hr).1)], vs.set k v, upd_same, ?_⟩
      rw [List.map_set]
      refine DtAll.of (by rw [List.length_set, List.length_set]; exact hd'.len) fun i x d hx hdd => ?_
      by_cases e2 : k = i
      · subst e2
        rw [List.getElem?_set] at hx hdd
        simp only [if_true] at hx hdd
        split at hx
        · split at hdd
          · cases hx; cases hdd; exact hvd.tp tp
          · cases hdd
        · cases hx
      · rw [List.getElem?_set_ne e2] at hx hdd
        obtain ⟨d2, h3, h4⟩ := hd'.get hx
        rw [h3] at hdd
        cases hdd
        exact h4.tp tp
    · obtain ⟨r2, h3, h4⟩ := h.dl m2 p2 hp2
      have ne : p2 ≠ p := fun z => by
        subst z
        exact e ((List.getElem?_inj (List.getElem?_eq_some_iff.mp hp2).1 h.nd).mp (hp2.trans hp.symm))
      obtain ⟨vs2, h5, h6⟩ := h4
      refine ⟨r2, by rw [List.getElem?_set_ne (Ne.symm e)]; exact h3, vs2, by rw [upd_ne ne]; exact h5, h6.tp tp⟩
  · rcases List.mem_or_eq_of_mem_set hx with hx | hx
    · exact h.ok.row x hx
    · rw [hx, List.length_set]; exact h.ok.row r hrm
  · rcases List.mem_or_eq_of_mem_set hx with hx | hx
    · exact h.ok.cell x hx
    · subst hx
      intro y hy
      rcases List.mem_or_eq_of_mem_set hy with hy | hy
      · exact h.ok.cell r hrm y hy
      · rw [hy]; exact ⟨hc, ha⟩
section
variable {P : Program} {w : World} {K : PySem.W.Frag} {mg : Str → Option Value} {base : Heap} {f : Addr} {fd : FuncData} {cl : Cls6}
abbrev s__law_wheel : Stmt := top 96
abbrev N__law_wheel : List Str := ["_law_draw_here", "_law_stage", "_law_letters_here", "_law_moves_here", "_law_many", "_law_told", "_law_table_here", "_law_spot", "_law_left", "_law_memory", "_law_after", "_law_cells"]
theorem sc__law_wheel : FnScope N__law_wheel ["_law_draw_here", "_law_stage", "_law_letters_here", "_law_moves_here", "_law_many"] (defScope s__law_wheel) := ⟨rfl, rfl, rfl, by decide +kernel, rfl, by decide +kernel, by decide +kernel⟩
def sp__law_wheel (K : PySem.W.Frag) : Sp := fun vs H Q _ => ∃ (a : Addr) (ls : List Nat) (mv : Addr) (d : Wd) (many : Nat), vs = [.ref a, .int d.st, .str (tx ls), .ref mv, .int many] ∧ DrawAt K H a ∧ MvAt H mv d ∧ WdOk d ∧ ls.Perm (lts d) ∧ 1 ≤ many ∧ many ≤ 4 ∧
  ∀ v tb H', Ex H H' → TbOk d.st ls many tb → Dt H' v (dTb tb) → Q v H'
def LsΨ (ls : List Nat) : Nat → List V → Hp → Prop := fun i acc _ => ∃ ts : List Nat, acc = (ts.map fun c => V.str (ch c)) ∧ ts.length = i ∧ ∀ c ∈ ts, c ∈ ls
theorem ok__law_wheel  (T : Txt K mg cl) (F : FnP K "_law_wheel" "_law_wheel" s__law_wheel [] f fd) (G__law_pick : GDef P w K mg base "_law_pick" 2 ["_law_draw_here", "_law_many"] [] ((sp__law_pick K))) : FnOk P w K mg base CX0 3 f fd ["_law_draw_here", "_law_stage", "_law_letters_here", "_law_moves_here", "_law_many"] ((sp__law_wheel K)) := by
  refine F.ok sc__law_wheel (fun vs H Q E h => ?_) (fun cdv A outer s H vs Q E hr h => ?_)
  · unfold sp__law_wheel at h; (repeat obtain ⟨_, h⟩ := h); subst_vars; rfl
  have hu := hr.units
  refine ⟨_, PSs.nox (pss_cons (ps_setLc (i := 5) (own := [("_law_memory", 9)]) rfl sc__law_wheel.nd rfl rfl (sw_true rfl rfl rfl (by decide +kernel)) (pi_range1 (by rfl) T.b_range (pa_cons (pv 4) pa_nil)) (blkOk_by (N := N__law_wheel) (sc := defScope s__law_wheel) (by decide +kernel)) (fun _ _ _ _ _ => (pg_name (i := 9) sc__law_wheel.nd rfl (Or.inl rfl))) (fun _ _ _ _ _ => pts_nil) (fun _ _ _ _ _ => (pe_ix (ix_A (P := P) (w := w) (K := K) hu) (pv 2) (pe_g G__law_pick hr (pa_cons (pv 0) (pa_cons (pe_callB (call_lenA (P := P) (w := w) (K := K)) (by rfl) T.b_len (by decide +kernel) (pa_cons (pv 2) pa_nil)) pa_nil))) (fun _ _ => rfl))))
      (pss_cons (ps_setLc (i := 6) (own := [("_law_memory", 9)]) rfl sc__law_wheel.nd rfl rfl (sw_true rfl rfl rfl (by decide +kernel)) (pi_range1 (by rfl) T.b_range (pa_cons (pv 4) pa_nil)) (blkOk_by (N := N__law_wheel) (sc := defScope s__law_wheel) (by decide +kernel)) (fun _ _ _ _ _ => (pg_name (i := 9) sc__law_wheel.nd rfl (Or.inl rfl))) (fun _ _ _ _ _ => pts_nil) (fun _ _ _ _ _ => (pe_lc (own := [("_law_spot", 7)]) rfl sc__law_wheel.nd (pi_range1 (by rfl) T.b_range (pa_cons (pv 1) pa_nil)) (blkOk_by (N := N__law_wheel) (by rfl)) (fun _ _ _ _ _ => (pg_name (i := 7) sc__law_wheel.nd rfl (Or.inl rfl))) (fun _ _ _ _ _ => pts_nil) (fun _ _ _ _ _ => (pe_tupN (pa_cons pe_str (pa_cons pe_int pa_nil)))))))
      (pss_cons (ps_for PassesOwn.never rfl (pi_range1 (by rfl) T.b_range (pa_cons (pv 1) pa_nil)) (pg_name (i := 7) sc__law_wheel.nd rfl (Or.inl rfl)) (pss_cons (ps_setLc (i := 8) (own := [("_law_memory", 9)]) rfl sc__law_wheel.nd rfl rfl (sw_true rfl rfl rfl (by decide +kernel)) (pi_range1 (by rfl) T.b_range (pa_cons (pv 4) pa_nil)) (blkOk_by (N := N__law_wheel) (sc := defScope s__law_wheel) (by decide +kernel)) (fun _ _ _ _ _ => (pg_name (i := 9) sc__law_wheel.nd rfl (Or.inl rfl))) (fun _ _ _ _ _ => pts_nil) (fun _ _ _ _ _ => (pv 9)))
      (pss_one (ps_for PassesOwn.never rfl (pi_range1 (by rfl) T.b_range (pa_cons (pv 4) pa_nil)) (pg_name (i := 9) sc__law_wheel.nd rfl (Or.inl rfl)) (pss_cons (ps_set (i := 10) sc__law_wheel.nd rfl (Or.inl rfl) (pe_bm PySem.F.plainAttrs_list PySem.F.slot_list_pop PySem.F.type_list_pop mt_popAt (pv 8) (pa_cons (pe_g G__law_pick hr (pa_cons (pv 0) (pa_cons (pe_callB (call_lenA (P := P) (w := w) (K := K)) (by rfl) T.b_len (by decide +kernel) (pa_cons (pv 8) pa_nil)) pa_nil))) pa_nil)))
      (pss_cons (ps_set (i := 11) sc__law_wheel.nd rfl (Or.inl rfl) (pe_ix (ix_A (P := P) (w := w) (K := K) hu) (pv 6) (pv 9) (fun _ _ => rfl)))
      (pss_one (ps_asg (pe_tupN (pa_cons (pe_ix (ix_A (P := P) (w := w) (K := K) hu) (pv 5) (pv 9) (fun _ _ => rfl)) (pa_cons (pv 10) pa_nil))) (pg_sub (pv 11) (pe_op op_sub (pe_ix (ix_A (P := P) (w := w) (K := K) hu) (pe_ix (ix_A (P := P) (w := w) (K := K) hu) (pv 3) (pe_ix (ix_A (P := P) (w := w) (K := K) hu) (pv 5) (pv 9) (fun _ _ => rfl)) (fun _ _ => rfl)) (pv 7) (fun _ _ => rfl)) pe_int) (set_A (P := P) (w := w) (K := K) hu))))))))))
      (pss_one (ps_ret (pe_callTy (call_tupN (K := K)) (by rfl) T.b_tuple (by decide +kernel) (pa_cons (pe_lc (own := [("_law_cells", 11)]) rfl sc__law_wheel.nd (pi_list (pv 6)) (blkOk_by (N := N__law_wheel) (sc := defScope s__law_wheel) (by decide +kernel)) (fun _ _ _ _ _ => (pg_name (i := 11) sc__law_wheel.nd rfl (Or.inl rfl))) (fun _ _ _ _ _ => pts_nil) (fun _ _ _ _ _ => (pe_callTy (call_tupN (K := K)) (by rfl) T.b_tuple (by decide +kernel) (pa_cons (pv 11) pa_nil)))) pa_nil))))))), ?_⟩
  obtain ⟨a, ls, mv, d, many, rfl, ha, hmv, hd, hls, hm1, hm4, q⟩ := h
  have hl6 : ls.length ≤ 6 := by rw [hls.length_eq]; exact lts_len hd
  have hne : ls ≠ [] := fun z => by rw [z] at hls; have := hls.length_eq; simp [lts] at this
  have h8 := hd.s8
  have hp112 : 112 ∈ ls := (hls.mem_iff).mpr (by simp [lts])
  obtain ⟨H0, hH0⟩ : ∃ H0, H0 = H := ⟨H, rfl⟩
  refine ⟨_, rfl, many, rfl, by omega, by omega, fun D nD => ?_⟩
  refine lc_gen (walk_range (lo := 0) (n := (many : Int).toNat)) (LsΨ ls) (fun _ _ _ _ _ h => h) nD ⟨[], rfl, rfl, fun _ h => by cases h⟩ (fun _ _ => trivial) ?_ ?_
  · rintro i y acc H2 H3 hi l1 hD e1 ⟨ts, rfl, htl, htm⟩ ⟨rfl, rfl⟩
    refine ⟨rfl, yT ⟨_, rfl, _, rfl, _, rfl, pick_letter (ha.ex e1) hne (by omega) fun c hc => ?_⟩⟩
    refine LcN.mk (fun _ _ _ _ _ h => h) nD hD e1 (Ex.refl _) l1 (by rw [sizeLine_eq]; omega) ⟨ts ++ [c], by simp, by simp [htl], fun x hx => ?_⟩
    rcases List.mem_append.mp hx with hx | hx
    · exact htm x hx
    · rw [List.mem_singleton.mp hx]; exact hc
  rintro ys H1 e1 hD _ ⟨ts, rfl, htl, htm⟩
  have htl : ts.length = many := by simpa using htl
  refine ⟨_, rfl, many, rfl, by omega, by omega, fun T nT => ?_⟩
  have neDT : D ≠ T := fun z => by rw [← z, hD] at nT; cases nT
  refine lc_gen2 (walk_range (lo := 0) (n := (many : Int).toNat)) (fun i acc H => ∃ ps : List Addr, acc = ps.map V.ref ∧ ps.length = i ∧ ps.Nodup ∧ T ∉ ps ∧ D ∉ ps ∧ ∀ p ∈ ps, H0 p = none ∧ DL H p ((List.replicate d.st (112, 0)).map dCell)) nT ⟨[], rfl, rfl, List.nodup_nil, by simp, by simp, fun _ h => by cases h⟩ (fun _ _ => trivial) ?_ ?_
  · rintro i y acc H2 H3 hi l1 hT e2 ⟨ps, rfl, hpl, hpn, hpT, hpD, hpd⟩ ⟨rfl, rfl⟩
    refine ⟨rfl, yT ⟨_, rfl, d.st, rfl, by omega, by omega, fun C nC => ?_⟩⟩
    refine lc_gen (walk_range (lo := 0) (n := (d.st : Int).toNat)) (fun j acc H => DtAll H acc ((List.replicate j (112, 0)).map dCell)) (fun _ _ _ _ t h => h.tp t) nC .nil (fun _ _ => trivial) ?_ ?_
    · rintro j y acc H4 H5 hj l2 hC e3 hacc ⟨rfl, rfl⟩
      refine ⟨rfl, yT (tupN_d (ds := [.str (ch 112), .int (0 : Nat)]) (.cons (.str _) (.cons (.int _) .nil)) (by show 2 ≤ 100; decide) fun v5 H6 e5 hv5 => ?_)⟩
      refine LcN.mk (fun _ _ _ _ t h => h.tp t) nC hC e3 e5 l2 (by rw [sizeLine_eq]; omega) ?_
      rw [List.replicate_succ', List.map_append]
      exact (hacc.ex e5).snoc hv5
    · rintro zs H4 e3 hC _ hzs
      have nCT : C ≠ T := fun z => by rw [z, hT] at nC; cases nC
      have nCD : C ≠ D := fun z => by rw [z, e2 _ _ hD] at nC; cases nC
      have nCp : C ∉ ps := fun z => by obtain ⟨_, vs, h1, _⟩ := hpd C z; rw [nC] at h1; cases h1
      refine LcN.mk2 nT hT e2 e3 l1 (by rw [sizeLine_eq]; omega) ⟨ps ++ [C], by simp, by simp [hpl], ?_, ?_, ?_, ?_⟩
      · rw [List.nodup_append]
        exact ⟨hpn, by simp, fun x hx y hy e => by rw [List.mem_singleton.mp hy] at e; rw [e] at hx; exact nCp hx⟩
      · simp [hpT]; exact Ne.symm nCT
      · simp [hpD]; exact Ne.symm nCD
      · intro p hp
        have tpT : Tp H4 (upd H4 T (.lst (ps.map V.ref ++ [.ref C]))) := Tp.upd (Sft.lst (e3 _ _ hT))
        rcases List.mem_append.mp hp with hp | hp
        · obtain ⟨vs, h1, h2⟩ := (hpd p hp).2.ex e3
          exact ⟨(hpd p hp).1, vs, by rw [upd_ne (fun z => hpT (by rw [← z]; exact hp))]; exact h1, h2.tp tpT⟩
        · rw [List.mem_singleton.mp hp]
          exact ⟨by rw [hH0]; exact fresh_back (e1.trans e2) nC, zs, by rw [upd_ne nCT]; exact hC, by simpa using hzs.tp tpT⟩
  rintro ys H2 e2 hT _ ⟨ps, rfl, hpl, hpn, hpT, hpD, hpd⟩
  have hpl : ps.length = many := by simpa using hpl
  have W0 : WhI H2 T D ps ts d.st ls many (List.replicate many (List.replicate d.st (112, 0))) := by
    refine ⟨hT, e2 _ _ hD, hpT, hpD, hpn, fun m p hp => ⟨List.replicate d.st (112, 0), ?_, (hpd p (List.mem_of_getElem? hp)).2⟩, ⟨by simp, fun r hr => ?_, fun r hr x hx => ?_⟩, hpl⟩
    · have := (List.getElem?_eq_some_iff.mp hp).1
      rw [List.getElem?_replicate, if_pos (by omega)]
    · rw [(List.mem_replicate.mp hr).2]; simp
    · rw [(List.mem_replicate.mp hr).2] at hx
      rw [(List.mem_replicate.mp hx).2]
      exact ⟨hp112, by omega⟩
  have fresh : ∀ p ∈ ps, H p = none := fun p hp => by rw [← hH0]; exact (hpd p hp).1
  refine ⟨_, rfl, d.st, rfl, by omega, by omega, ?_⟩
  refine for_it (walk_range (lo := 0) (n := (d.st : Int).toNat)) (fun i σ H3 => ∃ (x1 x2 x3 x4 x5 : Option V) (tb : List (List (Nat × Nat))), σ = [some (.ref a), some (.int d.st), some (.str (tx ls)), some (.ref mv), some (.int many), some (.ref D), some (.ref T), x1, x2, x3, x4, x5] ∧ Ex H H3 ∧ WhI H3 T D ps ts d.st ls many tb)
    ⟨none, none, none, none, none, _, rfl, e1.trans e2, W0⟩ (fun _ _ _ _ _ => trivial) ?_ ?_
  · rintro i y σ H3 H4 hi ⟨x1, x2, x3, x4, x5, tb, rfl, e3, hW⟩ ⟨rfl, rfl⟩
    refine ⟨_, rfl, many, rfl, by omega, by omega, fun L nL => ?_⟩
    refine lc_gen (walk_range (lo := 0) (n := (many : Int).toNat)) (fun j acc H => acc = (List.range j).map fun (k : Nat) => V.int k) (fun _ _ _ _ _ h => h) nL rfl (fun _ _ => trivial) ?_ ?_
    · rintro j y acc H5 H6 hj l2 hL e4 rfl ⟨rfl, rfl⟩
      refine ⟨rfl, yT ⟨_, rfl, LcN.mk (fun _ _ _ _ _ h => h) nL hL e4 (Ex.refl _) l2 (by rw [sizeLine_eq]; omega) ?_⟩⟩
      rw [List.range_succ, List.map_append]
      simp
    · rintro zs H5 e4 hL _ rfl
      rw [show ((many : Int).toNat) = many by omega] at hL
      have nL0 : H L = none := fresh_back e3 nL
      have hW5 := hW.ex e4
      have hLT : L ≠ T := fun z => by rw [z, hW.hT] at nL; cases nL
      have hLD : L ≠ D := fun z => by rw [z, hW.ht] at nL; cases nL
      have hLp : L ∉ ps := fun z => by
        obtain ⟨m, hm⟩ := List.mem_iff_getElem?.mp z
        obtain ⟨r, _, vs, h1, _⟩ := hW.dl m L hm
        rw [nL] at h1; cases h1
      refine ⟨_, rfl, many, rfl, by omega, by omega, ?_⟩
      refine for_it (walk_range (lo := 0) (n := (many : Int).toNat)) (fun j σ H6 => ∃ (x3 x4 x5 : Option V) (tb : List (List (Nat × Nat))) (l : List Nat), σ = [some (.ref a), some (.int d.st), some (.str (tx ls)), some (.ref mv), some (.int many), some (.ref D), some (.ref T), some (.int (0 + (i : Int))), some (.ref L), x3, x4, x5] ∧ Ex H H6 ∧ WhI H6 T D ps ts d.st ls many tb ∧ H6 L = some (.lst (l.map fun k => V.int (k : Nat))) ∧ l.length = many - j ∧ ∀ k ∈ l, k < many)
        ⟨x3, x4, x5, tb, List.range many, rfl, e3.trans e4, hW5, hL, by simp, fun k hk => by simpa using hk⟩ (fun _ _ _ _ _ => trivial) ?_ ?_
      · rintro j y σ H6 H7 hj ⟨y3, y4, y5, tb, l, rfl, e6, hW6, hL6, hll, hlm⟩ ⟨rfl, rfl⟩
        have hjm : j < many := by omega
        refine ⟨_, rfl, .inl ⟨rfl, _, sq_of hL6⟩, _, rfl, _, rfl, len_l (sq_of hL6) ⟨a, _, rfl, ha.ex e6, by simp; omega, fun r hr => ?_⟩⟩
        have hrl : r < l.length := by rw [List.length_map] at hr; omega
        obtain ⟨k, hk⟩ : ∃ k, l[r]? = some k := ⟨_, List.getElem?_eq_getElem hrl⟩
        have hkm := hlm k (List.mem_of_getElem? hk)
        refine ⟨L, _, (r : Int), r, .int (k : Nat), rfl, rfl, hL6, by omega, by omega, by rw [List.length_map]; exact seqIndex_of (by omega) (by omega), by rw [List.getElem?_map, hk]; rfl, ?_⟩
        have E7 : Ex H (upd H7 L (.lst ((l.map fun k => V.int (k : Nat)).eraseIdx r))) := e6.mut nL0
        have tp7 : Tp H7 (upd H7 L (.lst ((l.map fun k => V.int (k : Nat)).eraseIdx r))) := Tp.upd (Sft.lst hL6)
        have hW7 : WhI (upd H7 L (.lst ((l.map fun k => V.int (k : Nat)).eraseIdx r))) T D ps ts d.st ls many tb := by
          refine ⟨by rw [upd_ne (Ne.symm hLT)]; exact hW6.hT, by rw [upd_ne (Ne.symm hLD)]; exact hW6.ht, hW6.nT, hW6.nt, hW6.nd, fun m p hp => ?_, hW6.ok, hW6.pl⟩
          obtain ⟨r2, h1, vs, h2, h3⟩ := hW6.dl m p hp
          exact ⟨r2, h1, vs, by rw [upd_ne (fun z => hLp (by rw [← z]; exact List.mem_of_getElem? hp))]; exact h2, h3.tp tp7⟩
        obtain ⟨p, hp⟩ : ∃ p, ps[j]? = some p := ⟨_, List.getElem?_eq_getElem (by omega)⟩
        obtain ⟨c, hc⟩ : ∃ c, ts[j]? = some c := ⟨_, List.getElem?_eq_getElem (by omega)⟩
        have hcm := htm c (List.mem_of_getElem? hc)
        obtain ⟨row, hrow, vs, hvs, hvd⟩ := hW7.dl j p hp
        refine ⟨_, rfl, _, rfl, ix_l (sq_of hW7.hT) (v := .ref p) (by rw [show (0 : Int) + (j : Int) = (j : Int) by omega]; exact atN (by rw [List.getElem?_map, hp]; rfl)) ?_⟩
        refine ⟨_, rfl, _, rfl, ix_l (sq_of hW7.ht) (v := .str (ch c)) (by rw [show (0 : Int) + (j : Int) = (j : Int) by omega]; exact atN (by rw [List.getElem?_map, hc]; rfl)) ⟨_, rfl, ?_⟩⟩
        refine tupN_d (ds := [.str (ch c), .int (k : Nat)]) (.cons (.str _) (.cons (.int _) .nil)) (by show 2 ≤ 100; decide) fun v8 H8 e8 hv8 => ?_
        obtain ⟨kvs, lk, hkv, htab, hlk⟩ := (hmv.ex E7).ex e8
        obtain ⟨v9, hv9, hd9⟩ := htab.get ((hlk.mem_iff).mpr ((hls.mem_iff).mp hcm))
        have hpm := mvD_pm d c
        have hidx : i < (mvD d c).length := by rw [hpm.1]; omega
        obtain ⟨z, hz⟩ : ∃ z, (mvD d c)[i]? = some z := ⟨_, List.getElem?_eq_getElem hidx⟩
        have hzb := hpm.2.1 z (List.mem_of_getElem? hz)
        refine ⟨_, rfl, _, rfl, _, rfl, _, rfl, ix_l (sq_of (hW7.ex e8).ht) (v := .str (ch c)) (by rw [show (0 : Int) + (j : Int) = (j : Int) by omega]; exact atN (by rw [List.getElem?_map, hc]; rfl)) (ix_k (k := .inr (ch c)) (.inl hkv) hv9 ⟨_, rfl, ix_r hd9.dp (j := z) (by rw [show (0 : Int) + (i : Int) = (i : Int) by omega]; exact atN hz) ⟨_, _, rfl, rfl, ?_⟩⟩)⟩
        have hvl : vs.length = d.st := by have := hvd.len; rw [List.length_map] at this; rw [this]; exact hW7.ok.row row (List.mem_of_getElem? hrow)
        have hvs8 := e8 _ _ hvs
        refine set_l ⟨p, vs, z - 1, (z - 1).toNat, rfl, rfl, hvs8, by unfold ixN; rw [if_pos (by omega), if_pos (by omega)], ?_⟩
        obtain ⟨tb', hW9⟩ := (hW7.ex e8).put hp hvs8 (k := (z - 1).toNat) hv8 hcm hkm
        have nLp : L ≠ p := fun z => hLp (by rw [z]; exact List.mem_of_getElem? hp)
        refine ⟨_, _, _, tb', l.eraseIdx r, rfl, (E7.trans e8).mut (fresh p (List.mem_of_getElem? hp)), hW9, ?_, by rw [List.length_eraseIdx_of_lt hrl]; omega, fun x hx => hlm x (List.mem_of_mem_eraseIdx hx)⟩
        rw [upd_ne nLp, ← eraseIdx_mapW]
        exact e8 _ _ upd_same
      · rintro σ H6 ⟨y3, y4, y5, tb, l, rfl, e6, hW6, _⟩
        exact ⟨_, _, _, _, _, tb, rfl, e6, hW6⟩
  · rintro σ H3 ⟨x1, x2, x3, x4, x5, tb, rfl, e3, hW⟩
    refine ⟨_, rfl, T, rfl, ⟨_, sq_of hW.hT⟩, fun R nR => ?_⟩
    refine lc_gen (walk_list (xs := ps.map V.ref)) (fun i acc H => DtAll H acc ((tb.take i).map dCells)) (fun _ _ _ _ t h => h.tp t) nR .nil (fun H e => sq_of (e _ _ hW.hT)) ?_ ?_
    · rintro i y acc H4 H5 hi l1 hR e4 hacc ⟨rfl, hy⟩
      rw [List.getElem?_map] at hy
      cases hp : ps[i]? with
      | none => rw [hp] at hy; cases hy
      | some p =>
        rw [hp] at hy
        obtain rfl := Option.some.inj hy
        obtain ⟨r, hr, vs, hvs, hvd⟩ := (hW.ex e4).dl i p hp
        refine ⟨rfl, yT ⟨_, rfl, tup_d (sq_of hvs) hvd fun v H6 e6 hv => ?_⟩⟩
        refine LcN.mk (fun _ _ _ _ t h => h.tp t) nR hR e4 e6 l1 (by rw [sizeLine_eq]; rw [List.length_map, hpl] at hi; omega) ?_
        rw [List.take_succ, hr, List.map_append]
        exact (hacc.ex e6).snoc hv
    · rintro ys H4 e4 hR _ hys
      rw [List.length_map, hpl, List.take_of_length_le (by rw [hW.ok.len]; exact Nat.le_refl _)] at hys
      exact tup_d (sq_of hR) hys fun v H5 e5 hv => q v tb H5 ((e3.trans e4).trans e5) hW.ok hv
abbrev s__law_any_table : Stmt := top 97
abbrev N__law_any_table : List Str := ["_law_draw_here", "_law_stage", "_law_letters_here", "_law_moves_here", "_law_many"]
theorem sc__law_any_table : FnScope N__law_any_table ["_law_draw_here", "_law_stage", "_law_letters_here", "_law_moves_here"] (defScope s__law_any_table) := ⟨rfl, rfl, rfl, by decide +kernel, rfl, by decide +kernel, by decide +kernel⟩
def sp__law_any_table (K : PySem.W.Frag) : Sp := fun vs H Q _ => ∃ (a : Addr) (ls : List Nat) (mv : Addr) (d : Wd), vs = [.ref a, .int d.st, .str (tx ls), .ref mv] ∧ DrawAt K H a ∧ MvAt H mv d ∧ WdOk d ∧ ls.Perm (lts d) ∧
  ∀ v tb many H', Ex H H' → 1 ≤ many → many ≤ 4 → TbOk d.st ls many tb → Dt H' v (dTb tb) → Q v H'
theorem ok__law_any_table  (T : Txt K mg cl) (F : FnP K "_law_any_table" "_law_any_table" s__law_any_table [] f fd) (G__law_pick : GDef P w K mg base "_law_pick" 2 ["_law_draw_here", "_law_many"] [] ((sp__law_pick K))) (G__law_wheel : GDef P w K mg base "_law_wheel" 3 ["_law_draw_here", "_law_stage", "_law_letters_here", "_law_moves_here", "_law_many"] [] ((sp__law_wheel K))) (G__law_table : GDef P w K mg base "_law_table" 3 ["_law_draw_here", "_law_stage", "_law_letters_here", "_law_many"] [] ((sp__law_table K))) : FnOk P w K mg base CX0 4 f fd ["_law_draw_here", "_law_stage", "_law_letters_here", "_law_moves_here"] ((sp__law_any_table K)) := by
  refine F.ok sc__law_any_table (fun vs H Q E h => ?_) (fun cdv A outer s H vs Q E hr h => ?_)
  · unfold sp__law_any_table at h; (repeat obtain ⟨_, h⟩ := h); subst_vars; rfl
  have hu := hr.units
  refine ⟨_, PSs.nox (pss_cons (ps_set (i := 4) sc__law_any_table.nd rfl (Or.inl rfl) (pe_op (op_addA (K := K)) pe_int (pe_g G__law_pick hr (pa_cons (pv 0) (pa_cons pe_int pa_nil)))))
      (pss_cons (ps_if (pt_cmpR (op_eqA (K := K) hu) (pe_g G__law_pick hr (pa_cons (pv 0) (pa_cons pe_int pa_nil))) pe_int (nomark _)) (pss_one (ps_ret (pe_g G__law_wheel hr (pa_cons (pv 0) (pa_cons (pv 1) (pa_cons (pv 2) (pa_cons (pv 3) (pa_cons (pv 4) pa_nil)))))))) pss_nil)
      (pss_one (ps_ret (pe_g G__law_table hr (pa_cons (pv 0) (pa_cons (pv 1) (pa_cons (pv 2) (pa_cons (pv 4) pa_nil))))))))), ?_⟩
  obtain ⟨a, ls, mv, d, rfl, ha, hmv, hd, hls, q⟩ := h
  have hl6 : ls.length ≤ 6 := by rw [hls.length_eq]; exact lts_len hd
  have hne : ls ≠ [] := fun z => by rw [z] at hls; have := hls.length_eq; simp [lts] at this
  have h8 := hd.s8
  refine ⟨_, rfl, a, 4, rfl, ha, by decide, fun r hr => add_i ?_⟩
  obtain ⟨many, hmn, hm1, hm4⟩ : ∃ many : Nat, (1 : Int) + r = many ∧ 1 ≤ many ∧ many ≤ 4 := ⟨1 + r, by omega, by omega, by omega⟩
  rw [hmn]
  refine ⟨_, rfl, a, 3, rfl, ha, by decide, fun r2 hr2 => eq_i ⟨_, rfl, iB (b := decide ((r2 : Int) = 0)) rfl (fun _ => ?_) (fun _ => ?_)⟩⟩
  · refine ⟨_, rfl, _, rfl, _, rfl, _, rfl, _, rfl, a, ls, mv, d, many, rfl, ha, hmv, hd, hls, hm1, hm4, fun v tb H1 e1 htb hv => q v tb many H1 e1 hm1 hm4 htb hv⟩
  · refine ⟨_, rfl, _, rfl, _, rfl, _, rfl, a, d.st, ls, many, rfl, ha, h8, hne, by omega, hm1, hm4, fun v tb H1 e1 htb hv => q v tb many H1 e1 hm1 hm4 htb hv⟩
end
end L2
set_option Elab.async false
set_option linter.all false
set_option maxRecDepth 100000
set_option maxHeartbeats 4000000
namespace L2
open PySem PySem.Spec PyProof.Rows Evl
/-! ### == of rows, standings, any data with itself -/
theorem canLay_map {α : Type} {f : α → PyData} : ∀ {l : List α}, (∀ x ∈ l, (f x).canLay0 = true) → PyData.canLayAll0 (l.map f) = true
  | [], _ => by rw [List.map_nil, PyData.canLayAll0]
  | x :: l, h => by rw [List.map_cons, PyData.canLayAll0, h x (List.mem_cons_self ..), canLay_map fun y hy => h y (List.mem_cons_of_mem _ hy)]; rfl
theorem depth_map {α : Type} {f : α → PyData} {k : Nat} : ∀ {l : List α}, (∀ x ∈ l, (f x).depth ≤ k) → PyData.depthAll (l.map f) ≤ k
  | [], _ => by rw [List.map_nil, PyData.depthAll]; exact Nat.zero_le _
  | x :: l, h => by
    rw [List.map_cons, PyData.depthAll]
    exact Nat.max_le.mpr ⟨h x (List.mem_cons_self ..), depth_map fun y hy => h y (List.mem_cons_of_mem _ hy)⟩
/-- may be compared: no dict, texts of real signs, depth at most k -/
def Cmp (k : Nat) (d : PyData) : Prop := d.canLay0 = true ∧ d.depth ≤ k
theorem Cmp.int (k : Nat) (i : Int) : Cmp k (.int i) := ⟨by rw [PyData.canLay0], by rw [PyData.depth]; exact Nat.zero_le _⟩
theorem Cmp.ch {c : Nat} (k : Nat) (h : c ≤ 122) : Cmp k (.str (ch c)) := ⟨by rw [PyData.canLay0]; show (#[c] : Array Nat).all (· < 0x110000) = true; simp; omega, by rw [PyData.depth]; exact Nat.zero_le _⟩
theorem Cmp.map {α : Type} {f : α → PyData} {l : List α} {k : Nat} (h : ∀ x ∈ l, Cmp k (f x)) : Cmp (k + 1) (.tuple (l.map f)) :=
  ⟨by rw [PyData.canLay0]; exact canLay_map fun x hx => (h x hx).1, by rw [PyData.depth]; exact Nat.succ_le_succ (depth_map fun x hx => (h x hx).2)⟩
theorem Cmp.list {l : List PyData} {k : Nat} (h : ∀ x ∈ l, Cmp k x) : Cmp (k + 1) (.tuple l) := by
  have := Cmp.map (f := id) (l := l) h
  rwa [List.map_id] at this
theorem Cmp.row (r : List Int) : Cmp 1 (dRow r) := .map fun x _ => .int 0 x
theorem Cmp.up {k m : Nat} {d : PyData} (h : Cmp k d) (hm : k ≤ m) : Cmp m d := ⟨h.1, Nat.le_trans h.2 hm⟩
theorem Cmp.sh {k : Nat} {d : PyData} (h : Cmp k d) (hk : k ≤ 64) : SeqAt.shaped d = true := by
  unfold SeqAt.shaped
  rw [h.1, decide_eq_true (Nat.le_trans h.2 hk)]; rfl
theorem Cmp.std (s : Std) : Cmp 2 (dStd s) := .list fun x hx => by
  rcases List.mem_cons.mp hx with e | hx
  · rw [e]; exact .int 1 _
  · rw [List.mem_singleton.mp hx]; exact .row _
mutual
theorem eqv_self : ∀ d : PyData, d.canLay0 = true → PyData.eqv d d = true
  | .none, _ => by simp [PyData.eqv]
  | .bool _, _ => by simp [PyData.eqv]
  | .int _, _ => by simp [PyData.eqv]
  | .str _, _ => by simp [PyData.eqv]
  | .list xs, h => by rw [PyData.eqv]; exact eqvAll_self xs (by simpa [PyData.canLay0] using h)
  | .tuple xs, h => by rw [PyData.eqv]; exact eqvAll_self xs (by simpa [PyData.canLay0] using h)
  | .dict _, h => absurd h (by simp [PyData.canLay0])
theorem eqvAll_self : ∀ xs : List PyData, PyData.canLayAll0 xs = true → PyData.eqvAll xs xs = true
  | [], _ => by simp [PyData.eqvAll]
  | x :: xs, h => by
    have h2 : x.canLay0 = true ∧ PyData.canLayAll0 xs = true := by simpa [PyData.canLayAll0] using h
    rw [PyData.eqvAll, eqv_self x h2.1, eqvAll_self xs h2.2]; rfl
end
theorem eqv_row (r s : List Int) : PyData.eqv (dRow r) (dRow s) = decide (r = s) := by
  have := PySem.W.Datum.eqv (PySem.W.Tup.mk r) (PySem.W.Tup.mk s)
  refine Eq.trans this (decide_eq_decide.mpr ⟨fun e => by injection e, fun e => by rw [e]⟩)
theorem eqv_std (s t : Std) : PyData.eqv (dStd s) (dStd t) = decide (s = t) := by
  have := PySem.W.Datum.eqv ((s.1, PySem.W.Tup.mk s.2) : Int × PySem.W.Tup Int) (t.1, PySem.W.Tup.mk t.2)
  refine Eq.trans this (decide_eq_decide.mpr ⟨fun e => ?_, fun e => by rw [e]⟩)
  injection e with e1 e2
  injection e2 with e2
  exact Prod.ext e1 e2
section
variable {P : Program} {w : World} {K : PySem.W.Frag} {mg : Str → Option Value} {base : Heap} {f : Addr} {fd : FuncData} {cl : Cls6} {H : Hp} {x y : V} {Q : VK}
theorem eq_r {r s : List Int} (h1 : Dp K H x (dRow r)) (h2 : Dp K H y (dRow s)) (q : Q (.bl (decide (r = s))) H) : rEqA K x y H Q :=
  eq_d h1 h2 ((Cmp.row r).sh (by decide)) ((Cmp.row s).sh (by decide)) (by rw [eqv_row]; exact q)
theorem eq_st {r s : Std} (h1 : Dp K H x (dStd r)) (h2 : Dp K H y (dStd s)) (q : Q (.bl (decide (r = s))) H) : rEqA K x y H Q :=
  eq_d h1 h2 ((Cmp.std r).sh (by decide)) ((Cmp.std s).sh (by decide)) (by rw [eqv_std]; exact q)
theorem ne_st {r s : Std} (h1 : Dp K H x (dStd r)) (h2 : Dp K H y (dStd s)) (q : Q (.bl (!decide (r = s))) H) : rNeA K x y H Q :=
  ne_d h1 h2 ((Cmp.std r).sh (by decide)) ((Cmp.std s).sh (by decide)) (by rw [eqv_std]; exact q)
theorem eq_self {k : Nat} {d : PyData} (h1 : Dp K H x d) (h2 : Dp K H y d) (c : Cmp k d) (hk : k ≤ 64) (q : Q (.bl true) H) : rEqA K x y H Q :=
  eq_d h1 h2 (c.sh hk) (c.sh hk) (by rw [eqv_self d c.1]; exact q)
/-- standings with their numbers -/
theorem valV_prs {d : Wd} {tb : List (List (Nat × Nat))} {b : Int} {g : Nat → V} : ∀ {n : Nat} {s : Std}, (∀ i, i < n → sq d tb b i ≠ s) → valV ((List.range n).map fun j => (sq d tb b j, g j)) s = none
  | n, s, h => by
    cases e : valV ((List.range n).map fun j => (sq d tb b j, g j)) s with
    | none => rfl
    | some v =>
      unfold valV at e
      cases e2 : ((List.range n).map fun j => (sq d tb b j, g j)).find? fun kv => decide (kv.1 = s) with
      | none => rw [e2] at e; cases e
      | some kv =>
        have h1 := List.mem_of_find?_eq_some e2
        have h2 := List.find?_some e2
        obtain ⟨i, hi, rfl⟩ := List.mem_map.mp h1
        exact absurd (of_decide_eq_true h2) (h i (List.mem_range.mp hi))
theorem valV_sq {d : Wd} {tb : List (List (Nat × Nat))} {b : Int} {g : Nat → V} {n : Nat} (hn : ∀ i j, i < n → j < n → sq d tb b i = sq d tb b j → i = j) {i : Nat} (hi : i < n) : valV ((List.range n).map fun j => (sq d tb b j, g j)) (sq d tb b i) = some (g i) := by
  unfold valV
  have h1 : (((List.range n).map fun j => (sq d tb b j, g j)).find? fun kv => decide (kv.1 = sq d tb b i)).isSome := by
    rw [List.find?_isSome]
    exact ⟨_, List.mem_map.mpr ⟨i, List.mem_range.mpr hi, rfl⟩, by simp⟩
  obtain ⟨kv, e⟩ := Option.isSome_iff_exists.mp h1
  rw [e]
  obtain ⟨j, hj, rfl⟩ := List.mem_map.mp (List.mem_of_find?_eq_some e)
  have h2 : sq d tb b j = sq d tb b i := by simpa using List.find?_some e
  have h3 := hn j i (List.mem_range.mp hj) hi h2
  subst h3
  rfl
abbrev s__law_walk : Stmt := top 98
abbrev N__law_walk : List Str := ["_law_moves_here", "_law_bell", "_law_table_here", "_law_home", "_law_pairs", "_law_there", "_law_called", "_law_turn", "_law_memory", "_law_row_here", "_law_letter_here", "_law_after", "_law_pair"]
theorem sc__law_walk : FnScope N__law_walk ["_law_moves_here", "_law_bell", "_law_table_here", "_law_home"] (defScope s__law_walk) := ⟨rfl, rfl, rfl, by decide +kernel, rfl, by decide +kernel, by decide +kernel⟩
def sp__law_walk (K : PySem.W.Frag) : Sp := fun vs H Q _ => ∃ (mv : Addr) (b : Int) (x y : V) (d : Wd) (tb : List (List (Nat × Nat))) (ls : List Nat) (many N : Nat), vs = [.ref mv, .int b, x, y] ∧ MvAt H mv d ∧ WdOk d ∧ Dt H x (dTb tb) ∧ Dt H y (dRow (rgI d.st)) ∧ TbOk d.st ls many tb ∧ (∀ c ∈ ls, c ∈ lts d) ∧ 1 ≤ many ∧ 1 ≤ b ∧ b ≤ d.st ∧ Wk d tb b N ∧
  ∀ a o p z H', Ex H H' → H' a = some (.frz o (.tup [.ref p, .str (tx (lets d tb b N)), .int z])) → DL H' p ((prs d tb b N).map dStd) → AtW d tb b N z → Q (.ref a) H'
/-- behind i turns -/
def WaI (P : Program) (w : World) (K : PySem.W.Frag) (d : Wd) (tb : List (List (Nat × Nat))) (mv : Addr) (b : Int) (x y : V) (p t : Addr) (H : Hp) (i : Nat) (σ : St) (H2 : Hp) : Prop :=
  ∃ (z1 z2 z3 z4 z5 z6 : Option V), σ = [some (.ref mv), some (.int b), some x, some y, some (.ref p), some (.ref t), some (.str (tx (lets d tb b i))), z1, z2, z3, z4, z5, z6] ∧ Ex H H2 ∧ DL H2 p ((prs d tb b (i + 1)).map dStd) ∧ ND eStd P w K H2 t ((List.range (i + 1)).map fun j => (sq d tb b j, V.int (j : Nat)))
theorem ok__law_walk  (T : Txt K mg cl) (F : FnP K "_law_walk" "_law_walk" s__law_walk [] f fd) (G__law_moved : GDef P w K mg base "_law_moved" 1 ["_law_row_here", "_law_move"] [] ((sp__law_moved K))) : FnOk P w K mg base CX0 2 f fd ["_law_moves_here", "_law_bell", "_law_table_here", "_law_home"] ((sp__law_walk K)) := by
  refine F.ok sc__law_walk (fun vs H Q E h => ?_) (fun cdv A outer s H vs Q E hr h => ?_)
  · unfold sp__law_walk at h; (repeat obtain ⟨_, h⟩ := h); subst_vars; rfl
  have hu := hr.units
  refine ⟨_, PSs.nox (pss_cons (ps_set (i := 4) sc__law_walk.nd rfl (Or.inl rfl) (pe_lst (pa_cons (pe_tupN (pa_cons pe_int (pa_cons (pv 3) pa_nil))) pa_nil)))
      (pss_cons (ps_set (i := 5) sc__law_walk.nd rfl (Or.inl rfl) (pe_dispN hu (pe_tupN (pa_cons pe_int (pa_cons (pv 3) pa_nil))) pe_int))
      (pss_cons (ps_set (i := 6) sc__law_walk.nd rfl (Or.inl rfl) pe_str)
      (pss_cons (ps_for PassesOwn.never rfl (pi_range1 (by rfl) T.b_range (pa_cons pe_int pa_nil)) (pg_name (i := 7) sc__law_walk.nd rfl (Or.inl rfl)) (pss_cons (ps_asg (pe_ix (ix_A (P := P) (w := w) (K := K) hu) (pv 4) (pe_un un_neg pe_int) (fun _ _ => rfl)) (pg_tup rfl (pgs_cons (pg_name (i := 8) sc__law_walk.nd rfl (Or.inl rfl)) (pgs_cons (pg_name (i := 9) sc__law_walk.nd rfl (Or.inl rfl)) pgs_nil))))
      (pss_cons (ps_asg (pe_ix (ix_A (P := P) (w := w) (K := K) hu) (pe_ix (ix_A (P := P) (w := w) (K := K) hu) (pv 2) (pv 8) (fun _ _ => rfl)) (pe_bn (P := P) (w := w) (K := K) PySem.F.plainAttrs_tuple PySem.F.slot_tuple_index PySem.F.type_tuple_index mt_tup_indexI (pv 9) (pa_cons (pv 1) pa_nil)) (fun _ _ => rfl)) (pg_tup rfl (pgs_cons (pg_name (i := 10) sc__law_walk.nd rfl (Or.inl rfl)) (pgs_cons (pg_name (i := 11) sc__law_walk.nd rfl (Or.inl rfl)) pgs_nil))))
      (pss_cons (ps_set (i := 6) sc__law_walk.nd rfl (Or.inl rfl) (pe_op (op_addA (K := K)) (pv 6) (pv 10)))
      (pss_cons (ps_set (i := 12) sc__law_walk.nd rfl (Or.inl rfl) (pe_tupN (pa_cons (pv 11) (pa_cons (pe_g G__law_moved hr (pa_cons (pv 9) (pa_cons (pe_ix (ix_A (P := P) (w := w) (K := K) hu) (pv 0) (pv 10) (fun _ _ => rfl)) pa_nil))) pa_nil))))
      (pss_cons (ps_if (pt_cmpR (op_eqA (K := K) hu) (pe_ix (ix_A (P := P) (w := w) (K := K) hu) (pv 12) pe_int (fun _ _ => rfl)) (pv 3) (nomark _)) (pss_one (ps_ret (pe_tupN (pa_cons (pv 4) (pa_cons (pv 6) (pa_cons (pe_un un_neg pe_int) pa_nil)))))) pss_nil)
      (pss_cons (ps_if (pt_cmpR (op_inA (P := P) (w := w) (K := K) hu) (pv 12) (pv 5) (by rfl)) (pss_one (ps_ret (pe_tupN (pa_cons (pv 4) (pa_cons (pv 6) (pa_cons (pe_ix (ix_A (P := P) (w := w) (K := K) hu) (pv 5) (pv 12) (fun _ _ => rfl)) pa_nil)))))) pss_nil)
      (pss_cons (ps_asg (pe_callB (call_lenA (P := P) (w := w) (K := K)) (by rfl) T.b_len (by decide +kernel) (pa_cons (pv 4) pa_nil)) (pg_sub (pv 5) (pv 12) (set_A (P := P) (w := w) (K := K) hu)))
      (pss_one (ps_expr (pe_bm PySem.F.plainAttrs_list PySem.F.slot_list_append PySem.F.type_list_append mt_append (pv 4) (pa_cons (pv 12) pa_nil))))))))))))
      (pss_one (ps_ret (pe_tupN (pa_cons (pv 4) (pa_cons (pv 6) (pa_cons (pe_un un_neg pe_int) pa_nil)))))))))), ?_⟩
  obtain ⟨mv, b, x, y, d, tb, ls, many, N, rfl, hmv, hd, hx, hy, hT, hls, hm1, hb1, hb2, hN, q⟩ := h
  have h8 := hd.s8
  have hS := fun i => sq_ok (d := d) hT hm1 hb1 hb2 i
  refine ⟨_, rfl, tupN_d (ds := [.int 0, dRow (rgI d.st)]) (.cons (.int _) (.cons hy .nil)) (by show 2 ≤ 100; decide) fun v1 H1 e1 hv1 => ⟨by show 1 ≤ sizeLine; decide, fun p hp => ?_⟩⟩
  have e2 := e1.trans (Ex.new (o := HO.lst [v1]) hp)
  have np : H p = none := fresh_back e1 hp
  intro t ht htm
  have e3 := e2.trans (Ex.new (o := NdO P w t []) ht)
  have nt : H t = none := fresh_back e2 ht
  refine ⟨_, rfl, ?_⟩
  refine tupN_d (ds := [.int 0, dRow (rgI d.st)]) (.cons (.int _) (.cons (hy.ex e3) .nil)) (by show 2 ≤ 100; decide) fun v2 H2 e4 hv2 => ?_
  have nel : p ≠ t := fun z => by rw [← z, upd_same] at ht; cases ht
  refine ⟨Std, inferInstance, eStd, ((0, rgI d.st) : Std), e4 _ _ upd_same, Dt.ks (s := ((0, rgI d.st) : Std)) hv2, fun o hnd => ?_⟩
  have tp5 : Tp H2 (upd H2 t o) := Tp.upd (by rw [e4 _ _ upd_same]; trivial)
  have e5 : Ex H (upd H2 t o) := (e3.trans e4).mut nt
  have hp5 : DL (upd H2 t o) p ((prs d tb b (0 + 1)).map dStd) := ⟨[v1], by rw [upd_ne nel]; exact e4 _ _ (by rw [upd_ne nel]; exact upd_same), .cons (((hv1.ex (Ex.new hp)).ex (Ex.new ht)).ex e4 |>.tp tp5) .nil⟩
  refine ⟨400, rfl, by omega, by omega, ?_⟩
  refine for_it (walk_range (lo := 0) (n := (400 : Int).toNat)) (fun i σ H2 => i < N ∧ WaI P w K d tb mv b x y p t H i σ H2)
    ⟨hN.n1, none, none, none, none, none, none, rfl, e5, hp5, hnd⟩ (fun _ _ _ _ _ => trivial) ?_ ?_
  · rintro i yy σ H3 H4 hi ⟨hiN, z1, z2, z3, z4, z5, z6, rfl, e6, hP, hT6⟩ ⟨rfl, rfl⟩
    obtain ⟨vs, hvs, hvd⟩ := hP
    have hvl : vs.length = i + 1 := by have := hvd.len; rw [List.length_map, prs_length] at this; exact this
    obtain ⟨vL, hvL, hdL⟩ := hvd.at (i := i) (d := dStd (sq d tb b i)) (by rw [List.getElem?_map, prs_get (by omega)]; rfl)
    have hs := hS i
    obtain ⟨row, g1, g2, g3, g4⟩ := cel_ok hT hb1 hb2 hs
    obtain ⟨hpl, hpn⟩ := plc_get hs.pm hb1 hb2
    refine ⟨_, rfl, 1, rfl, ix_l (sq_of hvs) (v := vL) ?_ ?_⟩
    · unfold atI ixN
      rw [if_neg (by decide), hvl, if_pos (by omega)]
      show vs[(-1 + ((i + 1 : Nat) : Int)).toNat]? = some vL
      rw [show (-1 + ((i + 1 : Nat) : Int)).toNat = i by omega]
      exact hvL
    obtain ⟨aL, oL, xL, rfl, hL1, hL2, hL3⟩ := hdL.tupI
    cases hL3 with
    | cons hA hL3 => cases hL3 with
    | cons hB hL3 =>
    cases hL3
    obtain rfl := hA.intI
    rename_i vR
    refine ⟨aL, _, rfl, .inl (.inr ⟨oL, hL1⟩), rfl, _, _, rfl, _, _, rfl, rfl, ?_⟩
    -- the cell
    refine ⟨_, rfl, _, rfl, ix_d (hx.ex e6) (i := (sq d tb b i).1) (d := dCells row) (atZ hs.m0 (by rw [List.getElem?_map, g1]; rfl)) fun vC hC => ?_⟩
    obtain ⟨aR, oR, rfl, hR1, hR2⟩ := hB.row
    refine ⟨_, rfl, ty_t hR1 hR2, _, rfl, aR, (sq d tb b i).2, b, plc b (sq d tb b i).2, rfl, rfl, .inl (.inr ⟨oR, hR1⟩), hpl, nodup_first hs.pm.2.2 hpl, ?_⟩
    refine ix_d hC (i := ((plc b (sq d tb b i).2 : Nat) : Int)) (d := dCell (cel tb b (sq d tb b i))) (atN (by rw [List.getElem?_map, g2]; rfl)) fun vD hD => ?_
    obtain ⟨aD, oD, xD, rfl, hD1, hD2, hD3⟩ := hD.tupI
    cases hD3 with
    | cons hA2 hD3 => cases hD3 with
    | cons hB2 hD3 =>
    cases hD3
    obtain rfl := hA2.strI
    obtain rfl := hB2.intI
    refine ⟨aD, _, rfl, .inl (.inr ⟨oD, hD1⟩), rfl, _, _, rfl, _, _, rfl, rfl, ?_⟩
    refine ⟨_, rfl, _, rfl, add_s (by rw [tx_length, lets_length]; show _ + 1 ≤ _; rw [sizeLine_eq]; have := hN.n390; omega) ?_⟩
    rw [tx_ch]
    obtain ⟨kvs, lk, hkv, htab, hlk⟩ := hmv.ex e6
    obtain ⟨v9, hv9, hd9⟩ := htab.get ((hlk.mem_iff).mpr (hls _ g3))
    have hpm := mvD_pm d (cel tb b (sq d tb b i)).1
    refine ⟨_, rfl, _, rfl, _, rfl, _, rfl, ix_k (k := .inr (ch (cel tb b (sq d tb b i)).1)) (.inl hkv) hv9 ?_⟩
    refine ⟨_, v9, _, _, rfl, hB.dp, hd9.dp, mv_bound hs.pm hpm, by rw [hpm.1]; exact h8, fun v10 H5 e7 hv10 => ?_⟩
    refine tupN_d (ds := [.int ((cel tb b (sq d tb b i)).2 : Nat), dRow (tms (sq d tb b i).2 (mvD d (cel tb b (sq d tb b i)).1))]) (.cons (.int _) (.cons hv10 .nil)) (by show 2 ≤ 100; decide) fun v11 H6 e8 hv11 => ?_
    have hv11 : Dt H6 v11 (dStd (sq d tb b (i + 1))) := hv11
    have e78 := e7.trans e8
    refine ⟨_, rfl, ix_d hv11 (i := 1) (d := dRow (sq d tb b (i + 1)).2) rfl fun v12 hv12 => ⟨_, rfl, eq_r hv12.dp (hy.ex (e6.trans e78)).dp ?_⟩⟩
    have hlets : tx (lets d tb b i ++ [(cel tb b (sq d tb b i)).1]) = tx (lets d tb b (i + 1)) := by rw [lets_succ]; rfl
    have hP6 : DL H6 p ((prs d tb b (i + 1)).map dStd) := DL.ex ⟨vs, hvs, hvd⟩ e78
    have RET : i + 1 = N → ∀ z, AtW d tb b N z → rNewT [.ref p, .str (tx (lets d tb b i ++ [(cel tb b (sq d tb b i)).1])), .int z] H6 Q := fun eN z hz => tupN_v (by show 3 ≤ 100; decide) fun pa oa ha1 ha2 => by
      rw [hlets, eN]
      refine q pa oa p z _ ((e6.trans e78).trans (Ex.new ha1)) upd_same ?_ hz
      rw [← eN]
      exact hP6.ex (Ex.new ha1)
    have first : ∀ k, 1 ≤ k → k ≤ N → Stop d tb b k → k = N := fun k h1 h2 h3 => by
      rcases Nat.lt_or_eq_of_le h2 with h4 | h4
      · exact absurd h3 (hN.no k h1 h4)
      · exact h4
    refine ⟨_, rfl, iB (b := decide ((sq d tb b (i + 1)).2 = rgI d.st)) rfl (fun e => ?_) (fun e => ?_)⟩
    · have eh := of_decide_eq_true e
      have eN := first (i + 1) (by omega) (by omega) (.inl eh)
      exact ⟨_, rfl, _, rfl, 1, rfl, RET eN (-1) (.inl ⟨by rw [← eN]; exact eh, rfl⟩)⟩
    have eh := of_decide_eq_false e
    have hT7 := hT6.ex e78
    have hinj : ∀ i2 j, i2 < i + 1 → j < i + 1 → sq d tb b i2 = sq d tb b j → i2 = j := fun a1 a2 h1 h2 h3 => hN.inj (by omega) (by omega) h3
    refine ⟨_, rfl, _, rfl, in_n hT7.r hv11.ks.dp ⟨_, rfl, iB (b := (valV ((List.range (i + 1)).map fun j => (sq d tb b j, V.int (j : Nat))) (sq d tb b (i + 1))).isSome) rfl (fun e => ?_) (fun e => ?_)⟩⟩
    · have hex : ∃ j, j < i + 1 ∧ sq d tb b j = sq d tb b (i + 1) := by
        by_cases h : ∃ j, j < i + 1 ∧ sq d tb b j = sq d tb b (i + 1)
        · exact h
        · rw [valV_prs fun j hj he => h ⟨j, hj, he⟩] at e
          cases e
      obtain ⟨j, hj, hje⟩ := hex
      have eN := first (i + 1) (by omega) (by omega) (.inr ⟨j, hj, hje⟩)
      have hval := valV_sq (g := fun j => V.int (j : Nat)) hinj hj
      rw [hje] at hval
      exact ⟨_, rfl, _, rfl, _, rfl, _, rfl, ix_n hT7.r hv11.ks.dp hval (RET eN (j : Int) (.inr ⟨by rw [← eN]; exact eh, j, by omega, by rw [← eN]; exact hje, rfl⟩))⟩
    · have hno : ∀ j, j < i + 1 → sq d tb b j ≠ sq d tb b (i + 1) := fun j hj he => by
        have hval := valV_sq (g := fun j => V.int (j : Nat)) hinj hj
        rw [he] at hval
        rw [hval] at e
        cases e
      have hiN2 : i + 1 < N := by
        rcases Nat.lt_or_eq_of_le (show i + 1 ≤ N by omega) with h4 | h4
        · exact h4
        · exfalso
          rcases hN.yes with h5 | ⟨j, hj, h5⟩
          · rw [← h4] at h5; exact eh h5
          · rw [← h4] at h5 hj; exact hno j hj h5
      obtain ⟨vs6, hvs6, hvd6⟩ := hP6
      have hvl6 : vs6.length = i + 1 := by have := hvd6.len; rw [List.length_map, prs_length] at this; exact this
      refine ⟨_, rfl, len_l (sq_of hvs6) ⟨_, rfl, _, rfl, set_n hT7 (by rw [List.length_map, List.length_range, sizeLine_eq]; have := hN.n390; omega) hv11.ks fun o9 hnd9 => ?_⟩⟩
      have nel9 : p ≠ t := nel
      have hP9 : (upd H6 t o9) p = some (.lst vs6) := by rw [upd_ne nel9]; exact hvs6
      have tp9 : Tp H6 (upd H6 t o9) := Tp.upd hT7.sft
      refine ⟨_, rfl, .inl ⟨rfl, _, sq_of hP9⟩, _, rfl, ?_⟩
      refine DL.app (d := dStd (sq d tb b (i + 1))) ⟨vs6, hP9, hvd6.tp tp9⟩ ((e6.trans e78).mut nt) np (hv11.tp tp9) (by rw [List.length_map, prs_length]; have := hN.n390; omega) fun H10 e10 hP10 t10 k10 => ?_
      refine ⟨hiN2, _, _, _, _, _, _, by rw [hlets]; rfl, e10, by rw [prs_succ, List.map_append]; exact hP10, ?_⟩
      have hnone : valV ((List.range (i + 1)).map fun j => (sq d tb b j, V.int (j : Nat))) (sq d tb b (i + 1)) = none := valV_prs hno
      rw [putK_new _ hnone, hvl6] at hnd9
      rw [List.range_succ, List.map_append]
      exact hnd9.at (k10 t (Ne.symm nel9)) t10
  · rintro σ H3 ⟨hiN, _⟩
    have := hN.n390
    exfalso
    revert hiN
    show ¬ (400 : Int).toNat < N
    omega
end
end L2
set_option Elab.async false
set_option linter.all false
set_option maxRecDepth 100000
set_option maxHeartbeats 4000000
namespace L2
open PySem PySem.Spec PyProof.Rows Evl
section
variable {P : Program} {w : World} {K : PySem.W.Frag} {mg : Str → Option Value} {base : Heap} {f : Addr} {fd : FuncData} {cl : Cls6}
abbrev s__law_same : Stmt := top 99
abbrev N__law_same : List Str := ["_law_told", "_law_due", "_law_k"]
theorem sc__law_same : FnScope N__law_same ["_law_told", "_law_due"] (defScope s__law_same) := ⟨rfl, rfl, rfl, by decide +kernel, rfl, by decide +kernel, by decide +kernel⟩
/-- numbers, texts, tuples of them, to that depth -/
def Dsm : Nat → PyData → Prop
  | _, .int _ => True
  | _, .str _ => True
  | n + 1, .tuple ds => ds.length ≤ 1000 ∧ ∀ d ∈ ds, Dsm n d
  | _, _ => False
def sp__law_same (K : PySem.W.Frag) (n : Nat) : Sp := fun vs H Q _ => ∃ (x y : V) (d : PyData), vs = [x, y] ∧ Dp K H x d ∧ Dp K H y d ∧ Dsm n d ∧ ∀ H', Ex H H' → Q (.bl true) H'
theorem Dsm.lit {n : Nat} {d : PyData} {x : V} {H : Hp} (h : Dsm n d) (hx : Dp K H x d) : lit x = true ∧ x ≠ .non ∧ ∀ b, x ≠ .bl b := by
  cases d with
  | none => cases n <;> exact h.elim
  | bool b => cases n <;> exact h.elim
  | int i => cases hx; exact ⟨rfl, (fun z => by cases z), (fun b z => by cases z)⟩
  | str s => cases hx; exact ⟨rfl, (fun z => by cases z), (fun b z => by cases z)⟩
  | list l => cases n <;> exact h.elim
  | tuple l => cases hx; exact ⟨rfl, (fun z => by cases z), (fun b z => by cases z)⟩
  | dict l => cases n <;> exact h.elim
theorem kit2 {a b : String} {r : Bool} (h : kitB a b = some r) : PySem.W.kitOne K (.type a) (.type b) = some r := kit_ty h
theorem ok_same0 (T : Txt K mg cl) (F : FnP K "_law_same" "_law_same" s__law_same [] f fd) (G__law_is_int : GDef P w K mg base "_law_is_int" 1 ["_law_thing"] [] ((sp__law_is_int K))) : FnOk P w K mg base CX0 2 f fd ["_law_told", "_law_due"] (sp__law_same K 0) := by
  refine F.ok sc__law_same (fun vs H Q E h => ?_) (fun cdv A outer s H vs Q E hr h => ?_)
  · unfold sp__law_same at h; (repeat obtain ⟨_, h⟩ := h); subst_vars; rfl
  have hu := hr.units
  refine ⟨_, PSs.nox (pss_cons (ps_if (PW.pt (pw_or (pt_cmpR op_isC (pv 1) pe_non (nomark _)) (pw_or (pt_cmpR op_isC (pv 1) pe_bl (nomark _)) (pw_or1 (pt_cmpR op_isC (pv 1) pe_bl (nomark _)))))) pss_never pss_nil)
      (pss_cons (ps_if (pt_val (pe_callB call_isi (by rfl) T.b_isinstance (by decide +kernel) (pa_cons (pv 1) (pa_cons (pe_bltn (v := .ty "int") (u := .type "int") (by rfl) T.b_int (by decide +kernel) rfl) pa_nil)))) (pss_one (ps_ret (pe_and (pe_g G__law_is_int hr (pa_cons (pv 0) pa_nil)) (pe_one (pe_cmpR (op_eqA (K := K) hu) (pv 0) (pv 1) (nomark _)))))) pss_nil)
      (pss_cons (ps_if (pt_val (pe_callB call_isi (by rfl) T.b_isinstance (by decide +kernel) (pa_cons (pv 1) (pa_cons (pe_bltn (v := .ty "str") (u := .type "str") (by rfl) T.b_str (by decide +kernel) rfl) pa_nil)))) (pss_one (ps_ret (pe_and (pe_callB call_isi (by rfl) T.b_isinstance (by decide +kernel) (pa_cons (pv 0) (pa_cons (pe_bltn (v := .ty "str") (u := .type "str") (by rfl) T.b_str (by decide +kernel) rfl) pa_nil))) (pe_one (pe_cmpR (op_eqA (K := K) hu) (pv 0) (pv 1) (nomark _)))))) pss_nil)
      pss_never))), ?_⟩
  obtain ⟨x, y, d, rfl, hx, hy, hd, q⟩ := h
  obtain ⟨l1, l2, l3⟩ := hd.lit hy
  refine ⟨_, rfl, l1, .inl rfl, _, rfl, iN (decide_eq_false l2) ⟨_, rfl, l1, .inr ⟨_, rfl⟩, _, rfl, iN (decide_eq_false (l3 true)) ⟨_, rfl, l1, .inr ⟨_, rfl⟩, _, rfl, iN (decide_eq_false (l3 false)) ?_⟩⟩⟩
  cases d with
  | int i =>
    cases hx; cases hy
    refine rd_isi rfl (.base (.int _)) (kit2 (by decide +kernel : kitB "int" "int" = some true)) (iT ⟨_, rfl, i, rfl, ⟨true, rfl, iT ⟨_, rfl, _, rfl, eq_i ?_⟩⟩⟩)
    rw [decide_eq_true rfl]
    exact q _ (Ex.refl _)
  | str z =>
    cases hx; cases hy
    refine rd_isi rfl (.base (.str _)) (kit2 (by decide +kernel : kitB "str" "int" = some false)) (iF ?_)
    refine rd_isi rfl (.base (.str _)) (kit2 (by decide +kernel : kitB "str" "str" = some true)) (iT ?_)
    refine rv_isi rfl (.base (.str _)) (kit2 (by decide +kernel : kitB "str" "str" = some true)) ⟨true, rfl, iT ⟨_, rfl, _, rfl, eq_s ?_⟩⟩
    rw [decide_eq_true rfl]
    exact q _ (Ex.refl _)
  | _ => exact hd.elim
theorem ok__law_same {n : Nat} (T : Txt K mg cl) (F : FnP K "_law_same" "_law_same" s__law_same [] f fd) (G__law_is_int : GDef P w K mg base "_law_is_int" 1 ["_law_thing"] [] ((sp__law_is_int K))) (G__law_same : GDef P w K mg base "_law_same" (n + 2) ["_law_told", "_law_due"] [] (sp__law_same K n)) : FnOk P w K mg base CX0 (n + 3) f fd ["_law_told", "_law_due"] (sp__law_same K (n + 1)) := by
  refine F.ok sc__law_same (fun vs H Q E h => ?_) (fun cdv A outer s H vs Q E hr h => ?_)
  · unfold sp__law_same at h; (repeat obtain ⟨_, h⟩ := h); subst_vars; rfl
  have hu := hr.units
  refine ⟨_, PSs.nox (pss_cons (ps_if (PW.pt (pw_or (pt_cmpR op_isC (pv 1) pe_non (nomark _)) (pw_or (pt_cmpR op_isC (pv 1) pe_bl (nomark _)) (pw_or1 (pt_cmpR op_isC (pv 1) pe_bl (nomark _)))))) (pss_one (ps_ret (pe_or (pe_and (pe_cmpR op_isC (pv 0) pe_non (nomark _)) (pe_one (pe_cmpR op_isC (pv 1) pe_non (nomark _)))) (pe_or (pe_and (pe_cmpR op_isC (pv 0) pe_bl (nomark _)) (pe_one (pe_cmpR op_isC (pv 1) pe_bl (nomark _)))) (pe_one (pe_and (pe_cmpR op_isC (pv 0) pe_bl (nomark _)) (pe_one (pe_cmpR op_isC (pv 1) pe_bl (nomark _))))))))) pss_nil)
      (pss_cons (ps_if (pt_val (pe_callB call_isi (by rfl) T.b_isinstance (by decide +kernel) (pa_cons (pv 1) (pa_cons (pe_bltn (v := .ty "int") (u := .type "int") (by rfl) T.b_int (by decide +kernel) rfl) pa_nil)))) (pss_one (ps_ret (pe_and (pe_g (hj := by omega) G__law_is_int hr (pa_cons (pv 0) pa_nil)) (pe_one (pe_cmpR (op_eqA (K := K) hu) (pv 0) (pv 1) (nomark _)))))) pss_nil)
      (pss_cons (ps_if (pt_val (pe_callB call_isi (by rfl) T.b_isinstance (by decide +kernel) (pa_cons (pv 1) (pa_cons (pe_bltn (v := .ty "str") (u := .type "str") (by rfl) T.b_str (by decide +kernel) rfl) pa_nil)))) (pss_one (ps_ret (pe_and (pe_callB call_isi (by rfl) T.b_isinstance (by decide +kernel) (pa_cons (pv 0) (pa_cons (pe_bltn (v := .ty "str") (u := .type "str") (by rfl) T.b_str (by decide +kernel) rfl) pa_nil))) (pe_one (pe_cmpR (op_eqA (K := K) hu) (pv 0) (pv 1) (nomark _)))))) pss_nil)
      (pss_cons (ps_if (pt_val (pe_callB call_isi (by rfl) T.b_isinstance (by decide +kernel) (pa_cons (pv 1) (pa_cons (pe_bltn (v := .ty "list") (u := .type "list") (by rfl) T.b_list (by decide +kernel) rfl) pa_nil)))) (pss_one (ps_if (PW.pt (pw_or (pt_not (pt_val (pe_callB call_isi (by rfl) T.b_isinstance (by decide +kernel) (pa_cons (pv 0) (pa_cons (pe_bltn (v := .ty "list") (u := .type "list") (by rfl) T.b_list (by decide +kernel) rfl) pa_nil))))) (pw_or1 (pt_cmpR (op_neA (K := K) hu) (pe_callB (call_lenA (P := P) (w := w) (K := K)) (by rfl) T.b_len (by decide +kernel) (pa_cons (pv 0) pa_nil)) (pe_callB (call_lenA (P := P) (w := w) (K := K)) (by rfl) T.b_len (by decide +kernel) (pa_cons (pv 1) pa_nil)) (nomark _))))) pss_never pss_nil)) (pss_one (ps_if (PW.pt (pw_or (pt_not (pt_val (pe_callB call_isi (by rfl) T.b_isinstance (by decide +kernel) (pa_cons (pv 0) (pa_cons (pe_bltn (v := .ty "tuple") (u := .type "tuple") (by rfl) T.b_tuple (by decide +kernel) rfl) pa_nil))))) (pw_or1 (pt_cmpR (op_neA (K := K) hu) (pe_callB (call_lenA (P := P) (w := w) (K := K)) (by rfl) T.b_len (by decide +kernel) (pa_cons (pv 0) pa_nil)) (pe_callB (call_lenA (P := P) (w := w) (K := K)) (by rfl) T.b_len (by decide +kernel) (pa_cons (pv 1) pa_nil)) (nomark _))))) pss_never pss_nil)))
      (pss_cons (ps_for PassesOwn.never rfl (pi_range1 (by rfl) T.b_range (pa_cons (pe_callB (call_lenA (P := P) (w := w) (K := K)) (by rfl) T.b_len (by decide +kernel) (pa_cons (pv 1) pa_nil)) pa_nil)) (pg_name (i := 2) sc__law_same.nd rfl (Or.inl rfl)) (pss_one (ps_if (pt_not (pt_val (pe_g (hj := Nat.le_refl _) G__law_same hr (pa_cons (pe_ix (ix_A (P := P) (w := w) (K := K) hu) (pv 0) (pv 2) (fun _ _ => rfl)) (pa_cons (pe_ix (ix_A (P := P) (w := w) (K := K) hu) (pv 1) (pv 2) (fun _ _ => rfl)) pa_nil))))) pss_never pss_nil)))
      (pss_one (ps_ret pe_bl))))))), ?_⟩
  obtain ⟨x, y, d, rfl, hx, hy, hd, q⟩ := h
  obtain ⟨l1, l2, l3⟩ := hd.lit hy
  refine ⟨_, rfl, l1, .inl rfl, _, rfl, iN (decide_eq_false l2) ⟨_, rfl, l1, .inr ⟨_, rfl⟩, _, rfl, iN (decide_eq_false (l3 true)) ⟨_, rfl, l1, .inr ⟨_, rfl⟩, _, rfl, iN (decide_eq_false (l3 false)) ?_⟩⟩⟩
  cases d with
  | int i =>
    cases hx; cases hy
    refine rd_isi rfl (.base (.int _)) (kit2 (by decide +kernel : kitB "int" "int" = some true)) (iT ⟨_, rfl, i, rfl, ⟨true, rfl, iT ⟨_, rfl, _, rfl, eq_i ?_⟩⟩⟩)
    rw [decide_eq_true rfl]
    exact q _ (Ex.refl _)
  | str z =>
    cases hx; cases hy
    refine rd_isi rfl (.base (.str _)) (kit2 (by decide +kernel : kitB "str" "int" = some false)) (iF ?_)
    refine rd_isi rfl (.base (.str _)) (kit2 (by decide +kernel : kitB "str" "str" = some true)) (iT ?_)
    refine rv_isi rfl (.base (.str _)) (kit2 (by decide +kernel : kitB "str" "str" = some true)) ⟨true, rfl, iT ⟨_, rfl, _, rfl, eq_s ?_⟩⟩
    rw [decide_eq_true rfl]
    exact q _ (Ex.refl _)
  | tuple ds =>
    obtain ⟨hw, hds⟩ := hd
    obtain ⟨a, xs, rfl, ha, hxs⟩ := hx.tupI
    obtain ⟨b, ys, rfl, hb, hys⟩ := hy.tupI
    refine rd_isi rfl hb.ty (kit2 (by decide +kernel : kitB "tuple" "int" = some false)) (iF ?_)
    refine rd_isi rfl hb.ty (kit2 (by decide +kernel : kitB "tuple" "str" = some false)) (iF ?_)
    refine rd_isi rfl hb.ty (kit2 (by decide +kernel : kitB "tuple" "list" = some false)) (iF ?_)
    refine rd_isi rfl ha.ty (kit2 (by decide +kernel : kitB "tuple" "tuple" = some true)) (iF ?_)
    refine ⟨_, rfl, len_t hx ⟨_, rfl, len_t hy (ne_i ⟨_, rfl, iN (by simp) ?_⟩)⟩⟩
    refine ⟨_, rfl, len_t hy ⟨_, rfl, by omega, by omega, ?_⟩⟩
    refine for_it (walk_range (lo := 0) (n := ((ds.length : Nat) : Int).toNat)) (fun i σ H2 => ∃ t, σ = [some (.ref a), some (.ref b), t] ∧ Ex H H2) ⟨none, rfl, Ex.refl _⟩ (fun _ _ _ _ _ => trivial) ?_ ?_
    · rintro i z σ H2 H3 hi ⟨t, rfl, e2⟩ ⟨rfl, rfl⟩
      obtain ⟨d, hd⟩ : ∃ d, ds[i]? = some d := ⟨ds[i]'(by omega), List.getElem?_eq_getElem (by omega)⟩
      refine ⟨_, rfl, _, rfl, ix_t (i := 0 + (i : Int)) (d := d) (hx.ex e2) (by rw [show (0 : Int) + (i : Int) = (i : Int) by omega]; exact atN hd) fun v1 hv1 => ⟨_, rfl, _, rfl, ix_t (i := 0 + (i : Int)) (d := d) (hy.ex e2) (by rw [show (0 : Int) + (i : Int) = (i : Int) by omega]; exact atN hd) fun v2 hv2 => ?_⟩⟩
      exact ⟨v1, v2, d, rfl, hv1, hv2, hds d (List.mem_of_getElem? hd), fun H4 e4 => ⟨true, rfl, iF ⟨_, rfl, e2.trans e4⟩⟩⟩
    · rintro σ H2 ⟨t, rfl, e2⟩
      exact q _ e2
  | _ => exact hd.elim
end
end L2
set_option Elab.async false
set_option linter.all false
set_option maxRecDepth 100000
set_option maxHeartbeats 4000000
namespace L2
open PySem PySem.Spec PyProof.Rows Evl
section
variable {P : Program} {w : World} {K : PySem.W.Frag} {mg : Str → Option Value} {base : Heap} {f : Addr} {fd : FuncData} {cl : Cls6}
theorem tru_t {H : Hp} {x : V} {ds : List PyData} {R : Bool → Hp → Prop} (h : Dp K H x (.tuple ds)) (q : R (!ds.isEmpty) H) : rTruA P w K x H R := by
  obtain ⟨a, xs, rfl, h1, h2⟩ := h.tupI
  refine tru_v (k := !ds.isEmpty) (.inr (.inl ⟨xs, h1, ?_⟩)) q
  cases h2 <;> rfl
/-- items of data, met in a walk -/
theorem mapD_get {α : Type} {g : α → PyData} {l : List α} {i : Nat} {d : PyData} (h : (l.map g)[i]? = some d) : ∃ a, l[i]? = some a ∧ d = g a := by
  rw [List.getElem?_map] at h
  cases e : l[i]? with
  | none => rw [e] at h; cases h
  | some a => rw [e] at h; exact ⟨a, rfl, (Option.some.inj h).symm⟩
abbrev s_are_changes : Stmt := top 53
abbrev N_are_changes : List Str := ["thing", "stage", "change"]
theorem sc_are_changes : FnScope N_are_changes ["thing", "stage"] (defScope s_are_changes) := ⟨rfl, rfl, rfl, by decide +kernel, rfl, by decide +kernel, by decide +kernel⟩
def sp_are_changes (K : PySem.W.Frag) : Sp := fun vs H Q _ => ∃ (x : V) (l : List (List Int)) (n : Nat), vs = [x, .int n] ∧ Dp K H x (dCh l) ∧ l ≠ [] ∧ (∀ c ∈ l, Mad n 1 c) ∧ n ≤ 8 ∧ ∀ H', Ex H H' → Q (.bl true) H'
theorem ok_are_changes  (T : Txt K mg cl) (F : FnP K "are_changes" "are_changes" s_are_changes [] f fd) (G_is_sound_change : GDef P w K mg base "is_sound_change" 3 ["thing", "stage"] [] ((sp_is_sound_change K))) : FnOk P w K mg base CX0 4 f fd ["thing", "stage"] ((sp_are_changes K)) := by
  refine F.ok sc_are_changes (fun vs H Q E h => ?_) (fun cdv A outer s H vs Q E hr h => ?_)
  · unfold sp_are_changes at h; (repeat obtain ⟨_, h⟩ := h); subst_vars; rfl
  have hu := hr.units
  refine ⟨_, PSs.nox (pss_cons (ps_if (PW.pt (pw_or (pt_not (pt_val (pe_callB call_isi (by rfl) T.b_isinstance (by decide +kernel) (pa_cons (pv 0) (pa_cons (pe_bltn (v := .ty "tuple") (u := .type "tuple") (by rfl) T.b_tuple (by decide +kernel) rfl) pa_nil))))) (pw_or1 (pt_not (pt_truR (tru_A (P := P) (w := w) (K := K)) (pv 0)))))) pss_never pss_nil)
      (pss_cons (ps_for PassesOwn.never rfl (pi_tup (pv 0)) (pg_name (i := 2) sc_are_changes.nd rfl (Or.inl rfl)) (pss_one (ps_if (pt_not (pt_val (pe_g G_is_sound_change hr (pa_cons (pv 2) (pa_cons (pv 1) pa_nil))))) pss_never pss_nil)))
      (pss_one (ps_ret pe_bl)))), ?_⟩
  obtain ⟨x, l, n, rfl, hx, hne, hl, hn, q⟩ := h
  obtain ⟨a, xs, rfl, ha, hxs⟩ := hx.tupI
  refine rd_isi rfl ha.ty (kit2 (by decide +kernel : kitB "tuple" "tuple" = some true)) (iF ⟨_, rfl, tru_t hx ?_⟩)
  refine iN (by cases l with | nil => exact absurd rfl hne | cons => rfl) ?_
  refine ⟨_, rfl, a, rfl, ⟨_, ha⟩, ?_⟩
  refine for_it (walk_tup (xs := xs)) (fun i σ H2 => ∃ t, σ = [some (.ref a), some (.int n), t] ∧ Ex H H2) ⟨none, rfl, Ex.refl _⟩ (fun i σ H2 _ ⟨_, _, e⟩ => ex_t e ha) ?_ ?_
  · rintro i y σ H2 H3 hi ⟨t, rfl, e2⟩ ⟨rfl, hy⟩
    obtain ⟨d, hd, hyd⟩ := (DpAll.ex e2 _ _ hxs).get hy
    obtain ⟨c, hc, rfl⟩ := mapD_get hd
    exact ⟨_, rfl, _, rfl, y, c, n, rfl, hyd, hl c (List.mem_of_getElem? hc), hn, fun H4 e4 => ⟨true, rfl, iF ⟨_, rfl, e2.trans e4⟩⟩⟩
  · rintro σ H2 ⟨t, rfl, e2⟩
    exact q _ e2
abbrev s_check_plain : Stmt := top 54
abbrev N_check_plain : List Str := ["plain", "stage", "number", "change"]
theorem sc_check_plain : FnScope N_check_plain ["plain", "stage"] (defScope s_check_plain) := ⟨rfl, rfl, rfl, by decide +kernel, rfl, by decide +kernel, by decide +kernel⟩
def sp_check_plain (K : PySem.W.Frag) : Sp := fun vs H Q _ => ∃ (x : V) (l : List (List Int)) (n : Nat), vs = [x, .int n] ∧ Dp K H x (dCh l) ∧ 1 ≤ l.length ∧ l.length ≤ 32 ∧ (∀ c ∈ l, Mad n 1 c) ∧ n ≤ 8 ∧ ∀ H', Ex H H' → Q .non H'
theorem ok_check_plain  (T : Txt K mg cl) (F : FnP K "check_plain" "check_plain" s_check_plain [] f fd) (G_is_sound_change : GDef P w K mg base "is_sound_change" 3 ["thing", "stage"] [] ((sp_is_sound_change K))) : FnOk P w K mg base CX0 4 f fd ["plain", "stage"] ((sp_check_plain K)) := by
  refine F.ok sc_check_plain (fun vs H Q E h => ?_) (fun cdv A outer s H vs Q E hr h => ?_)
  · unfold sp_check_plain at h; (repeat obtain ⟨_, h⟩ := h); subst_vars; rfl
  have hu := hr.units
  refine ⟨_, PSs.nox (pss_cons (ps_if (PW.pt (pw_or (pt_not (pt_val (pe_callB call_isi (by rfl) T.b_isinstance (by decide +kernel) (pa_cons (pv 0) (pa_cons (pe_bltn (v := .ty "tuple") (u := .type "tuple") (by rfl) T.b_tuple (by decide +kernel) rfl) pa_nil))))) (pw_or1 (pt_not (pt_chain op_le op_le pe_int (pe_callB (call_lenA (P := P) (w := w) (K := K)) (by rfl) T.b_len (by decide +kernel) (pa_cons (pv 0) pa_nil)) pe_int))))) pss_never pss_nil)
      (pss_one (ps_for PassesOwn.never rfl (pi_enumT (by rfl) T.b_enumerate (pa_cons (pv 0) pa_nil)) (pg_tup rfl (pgs_cons (pg_name (i := 2) sc_check_plain.nd rfl (Or.inl rfl)) (pgs_cons (pg_name (i := 3) sc_check_plain.nd rfl (Or.inl rfl)) pgs_nil))) (pss_one (ps_if (pt_not (pt_val (pe_g G_is_sound_change hr (pa_cons (pv 3) (pa_cons (pv 1) pa_nil))))) pss_never pss_nil))))), ?_⟩
  obtain ⟨x, l, n, rfl, hx, hl1, hl32, hl, hn, q⟩ := h
  obtain ⟨a, xs, rfl, ha, hxs⟩ := hx.tupI
  refine rd_isi rfl ha.ty (kit2 (by decide +kernel : kitB "tuple" "tuple" = some true)) (iF ?_)
  refine ⟨_, rfl, len_t hx ⟨_, _, rfl, rfl, _, rfl, iP (by simp; omega) ⟨_, _, rfl, rfl, _, rfl, iN (by simp; omega) ?_⟩⟩⟩
  refine ⟨_, rfl, a, xs, rfl, ha, ?_⟩
  refine for_it (walk_enumT (xs := xs)) (fun i σ H2 => ∃ t1 t2, σ = [some (.ref a), some (.int n), t1, t2] ∧ Ex H H2) ⟨none, none, rfl, Ex.refl _⟩ (fun i σ H2 _ ⟨_, _, _, e⟩ => ex_t e ha) ?_ ?_
  · rintro i y σ H2 H3 hi ⟨t1, t2, rfl, e2⟩ ⟨T0, u1, u2, rfl, hT0, rfl, hu1, hu2⟩
    cases hu1
    have e3 : Ex H2 (upd H2 T0 (.tup [.int (i : Nat), u2])) := Ex.new hT0
    obtain ⟨d, hd, hyd⟩ := (DpAll.ex (e2.trans e3) _ _ hxs).get hu2
    obtain ⟨c, hc, rfl⟩ := mapD_get hd
    refine ⟨T0, _, rfl, st_of upd_same, rfl, _, _, rfl, _, _, rfl, rfl, ?_⟩
    exact ⟨_, rfl, _, rfl, u2, c, n, rfl, hyd, hl c (List.mem_of_getElem? hc), hn, fun H4 e4 => ⟨true, rfl, iF ⟨_, _, rfl, (e2.trans e3).trans e4⟩⟩⟩
  · rintro σ H2 ⟨t1, t2, rfl, e2⟩
    exact q _ e2
abbrev s_is_call : Stmt := top 55
abbrev N_is_call : List Str := ["thing", "stage", "size", "letter", "at", "many"]
theorem sc_is_call : FnScope N_is_call ["thing", "stage", "size"] (defScope s_is_call) := ⟨rfl, rfl, rfl, by decide +kernel, rfl, by decide +kernel, by decide +kernel⟩
def sp_is_call (K : PySem.W.Frag) : Sp := fun vs H Q _ => ∃ (x : V) (c : Nat × Nat × List (List Int)) (n k : Nat), vs = [x, .int n, .int k] ∧ Dp K H x (dCall c) ∧ CallOk n k c ∧ n ≤ 8 ∧ ∀ H', Ex H H' → Q (.bl true) H'
theorem ok_is_call  (T : Txt K mg cl) (F : FnP K "is_call" "is_call" s_is_call [] f fd) (G_is_letter : GDef P w K mg base "is_letter" 1 ["thing"] [] (sp_is_letter)) (G_is_integer : GDef P w K mg base "is_integer" 1 ["thing", "low", "high"] [] (sp_is_integer)) (G_are_changes : GDef P w K mg base "are_changes" 4 ["thing", "stage"] [] ((sp_are_changes K))) : FnOk P w K mg base CX0 5 f fd ["thing", "stage", "size"] ((sp_is_call K)) := by
  refine F.ok sc_is_call (fun vs H Q E h => ?_) (fun cdv A outer s H vs Q E hr h => ?_)
  · unfold sp_is_call at h; (repeat obtain ⟨_, h⟩ := h); subst_vars; rfl
  have hu := hr.units
  refine ⟨_, PSs.nox (pss_cons (ps_if (PW.pt (pw_or (pt_not (pt_val (pe_callB call_isi (by rfl) T.b_isinstance (by decide +kernel) (pa_cons (pv 0) (pa_cons (pe_bltn (v := .ty "tuple") (u := .type "tuple") (by rfl) T.b_tuple (by decide +kernel) rfl) pa_nil))))) (pw_or1 (pt_cmpR (op_neA (K := K) hu) (pe_callB (call_lenA (P := P) (w := w) (K := K)) (by rfl) T.b_len (by decide +kernel) (pa_cons (pv 0) pa_nil)) pe_int (nomark _))))) pss_never pss_nil)
      (pss_cons (ps_asg (pv 0) (pg_tup rfl (pgs_cons (pg_name (i := 3) sc_is_call.nd rfl (Or.inl rfl)) (pgs_cons (pg_name (i := 4) sc_is_call.nd rfl (Or.inl rfl)) (pgs_cons (pg_name (i := 5) sc_is_call.nd rfl (Or.inl rfl)) pgs_nil)))))
      (pss_cons (ps_if (PW.pt (pw_or (pt_not (pt_val (pe_g G_is_letter hr (pa_cons (pv 3) pa_nil)))) (pw_or (pt_cmpR (op_eqA (K := K) hu) (pv 3) pe_str (nomark _)) (pw_or1 (pt_not (pt_val (pe_g G_is_integer hr (pa_cons (pv 4) (pa_cons pe_int (pa_cons (pv 2) pa_nil)))))))))) pss_never pss_nil)
      (pss_one (ps_ret (pe_and (pe_g G_are_changes hr (pa_cons (pv 5) (pa_cons (pv 1) pa_nil))) (pe_one (pe_cmpR op_le (pe_op (op_addA (K := K)) (pv 4) (pe_callB (call_lenA (P := P) (w := w) (K := K)) (by rfl) T.b_len (by decide +kernel) (pa_cons (pv 5) pa_nil))) (pv 2) (nomark _))))))))), ?_⟩
  obtain ⟨x, c, n, k, rfl, hx, hc, hn, q⟩ := h
  obtain ⟨a, xs, rfl, ha, hxs⟩ := hx.tupI
  refine rd_isi rfl ha.ty (kit2 (by decide +kernel : kitB "tuple" "tuple" = some true)) (iF ?_)
  refine ⟨_, rfl, len_t hx (ne_i ⟨_, rfl, iN (by simp) ?_⟩)⟩
  cases hxs with
  | cons h1 hxs => cases hxs with
  | cons h2 hxs => cases hxs with
  | cons h3 hxs =>
  cases hxs
  obtain rfl := h1.strI
  obtain rfl := h2.intI
  rename_i v3
  refine ⟨_, rfl, a, _, rfl, ha, rfl, _, _, rfl, _, _, rfl, _, _, rfl, rfl, ?_⟩
  refine ⟨_, rfl, c.1, rfl, hc.lo, hc.hi, true, rfl, iF ⟨_, rfl, eq_s ⟨_, rfl, iN ?_ ?_⟩⟩⟩
  · exact decide_eq_false fun e => hc.np (ch_inj (b := 112) e)
  have hf := hc.fit
  refine ⟨_, rfl, _, rfl, _, 0, k, rfl, true, by simp; omega, iF ?_⟩
  refine ⟨_, rfl, _, rfl, v3, c.2.2, n, rfl, h3, hc.ne, hc.mad, hn, fun H2 e2 => ⟨true, rfl, iT ?_⟩⟩
  refine ⟨_, rfl, _, rfl, len_t (ds := c.2.2.map dRow) (h3.ex e2) (add_i ⟨_, rfl, _, _, rfl, rfl, ?_⟩)⟩
  show Q (.bl (decide ((c.2.1 : Int) + ((c.2.2.map dRow).length : Nat) ≤ (k : Int)))) H2
  rw [decide_eq_true (by rw [List.length_map]; omega)]
  exact q _ e2
abbrev s_check_calls : Stmt := top 56
abbrev N_check_calls : List Str := ["calls", "stage", "size", "number", "call", "there", "letter", "at", "many"]
theorem sc_check_calls : FnScope N_check_calls ["calls", "stage", "size"] (defScope s_check_calls) := ⟨rfl, rfl, rfl, by decide +kernel, rfl, by decide +kernel, by decide +kernel⟩
def sp_check_calls (K : PySem.W.Frag) : Sp := fun vs H Q _ => ∃ (x : V) (l : List (Nat × Nat × List (List Int))) (n k : Nat), vs = [x, .int n, .int k] ∧ Dp K H x (dCalls l) ∧ (∀ c ∈ l, CallOk n k c) ∧ (l.map (·.1)).Nodup ∧ l.length ≤ 5 ∧ n ≤ 8 ∧ ∀ H', Ex H H' → Q .non H'
theorem ok_check_calls  (T : Txt K mg cl) (F : FnP K "check_calls" "check_calls" s_check_calls [] f fd) (G_is_call : GDef P w K mg base "is_call" 5 ["thing", "stage", "size"] [] ((sp_is_call K))) : FnOk P w K mg base CX0 6 f fd ["calls", "stage", "size"] ((sp_check_calls K)) := by
  refine F.ok sc_check_calls (fun vs H Q E h => ?_) (fun cdv A outer s H vs Q E hr h => ?_)
  · unfold sp_check_calls at h; (repeat obtain ⟨_, h⟩ := h); subst_vars; rfl
  have hu := hr.units
  refine ⟨_, PSs.nox (pss_cons (ps_if (pt_not (pt_val (pe_callB call_isi (by rfl) T.b_isinstance (by decide +kernel) (pa_cons (pv 0) (pa_cons (pe_bltn (v := .ty "tuple") (u := .type "tuple") (by rfl) T.b_tuple (by decide +kernel) rfl) pa_nil))))) pss_never pss_nil)
      (pss_cons (ps_for PassesOwn.never rfl (pi_enumT (by rfl) T.b_enumerate (pa_cons (pv 0) pa_nil)) (pg_tup rfl (pgs_cons (pg_name (i := 3) sc_check_calls.nd rfl (Or.inl rfl)) (pgs_cons (pg_name (i := 4) sc_check_calls.nd rfl (Or.inl rfl)) pgs_nil))) (pss_one (ps_if (pt_not (pt_val (pe_g G_is_call hr (pa_cons (pv 4) (pa_cons (pv 1) (pa_cons (pv 2) pa_nil)))))) pss_never pss_nil)))
      (pss_cons (ps_if (pt_cmpR op_gt (pe_callB (call_lenA (P := P) (w := w) (K := K)) (by rfl) T.b_len (by decide +kernel) (pa_cons (pv 0) pa_nil)) pe_int (nomark _)) pss_never pss_nil)
      (pss_cons (ps_set (i := 5) sc_check_calls.nd rfl (Or.inl rfl) pe_dnewK)
      (pss_one (ps_for PassesOwn.never rfl (pi_tup (pv 0)) (pg_tup rfl (pgs_cons (pg_name (i := 6) sc_check_calls.nd rfl (Or.inl rfl)) (pgs_cons (pg_name (i := 7) sc_check_calls.nd rfl (Or.inl rfl)) (pgs_cons (pg_name (i := 8) sc_check_calls.nd rfl (Or.inl rfl)) pgs_nil)))) (pss_cons (ps_if (pt_cmpR (op_inA (P := P) (w := w) (K := K) hu) (pv 6) (pv 5) (by rfl)) pss_never pss_nil)
      (pss_one (ps_asg (pe_op (op_addA (K := K)) (pv 7) (pe_callB (call_lenA (P := P) (w := w) (K := K)) (by rfl) T.b_len (by decide +kernel) (pa_cons (pv 8) pa_nil))) (pg_sub (pv 5) (pv 6) (set_A (P := P) (w := w) (K := K) hu))))))))))), ?_⟩
  obtain ⟨x, l, n, k, rfl, hx, hl, hnd, hl5, hn, q⟩ := h
  obtain ⟨a, xs, rfl, ha, hxs⟩ := hx.tupI
  refine rd_isi rfl ha.ty (kit2 (by decide +kernel : kitB "tuple" "tuple" = some true)) (iF ?_)
  refine ⟨_, rfl, a, xs, rfl, ha, ?_⟩
  refine for_it (walk_enumT (xs := xs)) (fun i σ H2 => ∃ t1 t2, σ = [some (.ref a), some (.int n), some (.int k), t1, t2, none, none, none, none] ∧ Ex H H2) ⟨none, none, rfl, Ex.refl _⟩ (fun i σ H2 _ ⟨_, _, _, e⟩ => ex_t e ha) ?_ ?_
  · rintro i y σ H2 H3 hi ⟨t1, t2, rfl, e2⟩ ⟨T0, u1, u2, rfl, hT0, rfl, hu1, hu2⟩
    cases hu1
    have e3 : Ex H2 (upd H2 T0 (.tup [.int (i : Nat), u2])) := Ex.new hT0
    obtain ⟨d, hd, hyd⟩ := (DpAll.ex (e2.trans e3) _ _ hxs).get hu2
    obtain ⟨c, hc, rfl⟩ := mapD_get hd
    refine ⟨T0, _, rfl, st_of upd_same, rfl, _, _, rfl, _, _, rfl, rfl, ?_⟩
    exact ⟨_, rfl, _, rfl, _, rfl, u2, c, n, k, rfl, hyd, hl c (List.mem_of_getElem? hc), hn, fun H4 e4 => ⟨true, rfl, iF ⟨_, _, rfl, (e2.trans e3).trans e4⟩⟩⟩
  · rintro σ H2 ⟨t1, t2, rfl, e2⟩
    refine ⟨_, rfl, len_t (hx.ex e2) ⟨_, _, rfl, rfl, _, rfl, iN (by simp; omega) ?_⟩⟩
    intro p hp
    have e3 : Ex H2 (upd H2 p (.dK [])) := Ex.new hp
    have np : H p = none := fresh_back e2 hp
    refine ⟨_, rfl, a, rfl, ⟨_, ex_t (e2.trans e3) ha⟩, ?_⟩
    refine for_it (walk_tup (xs := xs)) (fun i σ H4 => ∃ t3 t4 t5 kvs, σ = [some (.ref a), some (.int n), some (.int k), t1, t2, some (.ref p), t3, t4, t5] ∧ Ex H H4 ∧ H4 p = some (.dK kvs) ∧ Tab (fun _ _ => True) kvs ((l.take i).map (·.1)))
      ⟨none, none, none, [], rfl, e2.trans e3, upd_same, .nil⟩ (fun i σ H2 _ ⟨_, _, _, _, _, e, _⟩ => ex_t e ha) ?_ ?_
    · rintro i y σ H4 H5 hi ⟨t3, t4, t5, kvs, rfl, e4, hk, htab⟩ ⟨rfl, hy⟩
      obtain ⟨d, hd, hyd⟩ := (DpAll.ex e4 _ _ hxs).get hy
      obtain ⟨c, hc, rfl⟩ := mapD_get hd
      obtain ⟨b, ys, rfl, hb, hys⟩ := hyd.tupI
      cases hys with
      | cons h1 hys => cases hys with
      | cons h2 hys => cases hys with
      | cons h3 hys =>
      cases hys
      obtain rfl := h1.strI
      obtain rfl := h2.intI
      have htk : l.take (i + 1) = l.take i ++ [c] := by rw [List.take_succ, hc]; rfl
      have hnot : c.1 ∉ (l.take i).map (·.1) := by
        intro hm
        rw [← List.take_append_drop (i + 1) l, htk, List.map_append, List.map_append, List.append_assoc, List.nodup_append] at hnd
        exact hnd.2.2 c.1 hm c.1 (by simp) rfl
      refine ⟨b, _, rfl, hb, rfl, _, _, rfl, _, _, rfl, _, _, rfl, rfl, ?_⟩
      refine ⟨_, rfl, _, rfl, in_k (k := .inr (ch c.1)) (.inl hk) ⟨_, rfl, iN (by rw [htab.no hnot]; rfl) ?_⟩⟩
      refine ⟨_, rfl, _, rfl, len_t (ds := c.2.2.map dRow) h3 (add_i ⟨_, rfl, _, rfl, set_k (k := .inr (ch c.1)) hk (by rw [htab.len, sizeLine_eq, List.length_map, List.length_take]; omega) ?_⟩)⟩
      exact ⟨_, _, _, _, rfl, e4.mut np, upd_same, by rw [htk, List.map_append]; exact htab.put hnot trivial⟩
    · rintro σ H4 ⟨t3, t4, t5, kvs, rfl, e4, _⟩
      exact q _ e4
abbrev s_rows_through : Stmt := top 57
abbrev N_rows_through : List Str := ["stage", "lead", "rows", "row", "change"]
theorem sc_rows_through : FnScope N_rows_through ["stage", "lead"] (defScope s_rows_through) := ⟨rfl, rfl, rfl, by decide +kernel, rfl, by decide +kernel, by decide +kernel⟩
def sp_rows_through (K : PySem.W.Frag) : Sp := fun vs H Q _ => ∃ (x : V) (l : List (List Int)) (n : Nat), vs = [.int n, x] ∧ Dp K H x (dCh l) ∧ n ≤ 8 ∧ l.length ≤ 100 ∧ (∀ c ∈ l, Mad n 1 c) ∧
  ∀ v (rows : List (List Int)) H', Ex H H' → Dt H' v (.tuple [.tuple (rows.map dRow), dRow (hdRow n l)]) → rows.length = l.length → (∀ r ∈ rows, Pm n r) → Q v H'
theorem ok_rows_through  (T : Txt K mg cl) (F : FnP K "rows_through" "rows_through" s_rows_through [] f fd) (G_first_row : GDef P w K mg base "first_row" 1 ["stage"] [] (sp_first_row)) (G_times : GDef P w K mg base "times" 1 ["row", "move"] [] ((sp_times K))) (G_change_move : GDef P w K mg base "change_move" 1 ["change", "stage"] [] ((sp_change_move K))) : FnOk P w K mg base CX0 2 f fd ["stage", "lead"] ((sp_rows_through K)) := by
  refine F.ok sc_rows_through (fun vs H Q E h => ?_) (fun cdv A outer s H vs Q E hr h => ?_)
  · unfold sp_rows_through at h; (repeat obtain ⟨_, h⟩ := h); subst_vars; rfl
  have hu := hr.units
  refine ⟨_, PSs.nox (pss_cons (ps_set (i := 2) sc_rows_through.nd rfl (Or.inl rfl) (pe_lst pa_nil))
      (pss_cons (ps_set (i := 3) sc_rows_through.nd rfl (Or.inl rfl) (pe_g G_first_row hr (pa_cons (pv 0) pa_nil)))
      (pss_cons (ps_for PassesOwn.never rfl (pi_tup (pv 1)) (pg_name (i := 4) sc_rows_through.nd rfl (Or.inl rfl)) (pss_cons (ps_expr (pe_bm PySem.F.plainAttrs_list PySem.F.slot_list_append PySem.F.type_list_append mt_append (pv 2) (pa_cons (pv 3) pa_nil)))
      (pss_one (ps_set (i := 3) sc_rows_through.nd rfl (Or.inl rfl) (pe_g G_times hr (pa_cons (pv 3) (pa_cons (pe_g G_change_move hr (pa_cons (pv 4) (pa_cons (pv 0) pa_nil))) pa_nil)))))))
      (pss_one (ps_ret (pe_tupN (pa_cons (pe_callTy (call_tupN (K := K)) (by rfl) T.b_tuple (by decide +kernel) (pa_cons (pv 2) pa_nil)) (pa_cons (pv 3) pa_nil)))))))), ?_⟩
  obtain ⟨x, l, n, rfl, hx, hn, hl, hm, q⟩ := h
  obtain ⟨a, xs, rfl, ha, hxs⟩ := hx.tupI
  refine ⟨by show 0 ≤ sizeLine; decide, fun p hp => ⟨_, rfl, n, rfl, hn, fun v1 H1 e1 hv1 => ?_⟩⟩
  have e2 : Ex H H1 := (Ex.new (o := HO.lst []) hp).trans e1
  have hp1 := e1 _ _ (upd_same (H := H) (a := p) (o := .lst []))
  refine ⟨_, rfl, a, rfl, ⟨_, ex_t e2 ha⟩, ?_⟩
  refine for_it (walk_tup (xs := xs)) (fun i σ H2 => ∃ (t : Option V) (r : V) (rows : List (List Int)), σ = [some (.int n), some (.ref a), some (.ref p), some r, t] ∧ Ex H H2 ∧ DL H2 p (rows.map dRow) ∧ rows.length = i ∧ (∀ r ∈ rows, Pm n r) ∧ Dt H2 r (dRow (hdRow n (l.take i))))
    ⟨none, v1, [], rfl, e2, ⟨[], hp1, .nil⟩, rfl, (fun _ h => by cases h), hv1⟩ (fun i σ H2 _ ⟨_, _, _, _, e, _⟩ => ex_t e ha) ?_ ?_
  · rintro i y σ H2 H3 hi ⟨t, r, rows, rfl, e3, hP, hrl, hrm, hr⟩ ⟨rfl, hy⟩
    obtain ⟨d, hd, hyd⟩ := (DpAll.ex e3 _ _ hxs).get hy
    obtain ⟨c, hc, rfl⟩ := mapD_get hd
    have htk : l.take (i + 1) = l.take i ++ [c] := by rw [List.take_succ, hc]; rfl
    have hil : i < l.length := (List.getElem?_eq_some_iff.mp hc).1
    refine ⟨_, rfl, .inl ⟨rfl, hP.sq⟩, _, rfl, ?_⟩
    refine hP.app (d := dRow (hdRow n (l.take i))) e3 hp hr (by rw [List.length_map]; omega) fun H4 e4 hP4 t4 k4 => ?_
    refine ⟨_, rfl, _, rfl, _, rfl, y, c, n, rfl, Dp.tp t4 _ _ (flt_row c) hyd, hm c (List.mem_of_getElem? hc), hn, fun v5 H5 e5 hv5 => ?_⟩
    refine ⟨r, v5, _, _, rfl, ((hr.tp t4).ex e5).dp, hv5.dp, mv_bound hdRow_pm (mvOf_pm n c), by rw [(mvOf_pm n c).1]; exact hn, fun v6 H6 e6 hv6 => ?_⟩
    refine ⟨_, v6, rows ++ [hdRow n (l.take i)], rfl, (e4.trans e5).trans e6, by rw [List.map_append]; exact (hP4.ex e5).ex e6, by simp [hrl], ?_, ?_⟩
    · intro z hz
      rcases List.mem_append.mp hz with hz | hz
      · exact hrm z hz
      · rw [List.mem_singleton.mp hz]; exact hdRow_pm
    · rw [htk, hdRow_snoc]; exact hv6
  · rintro σ H2 ⟨t, r, rows, rfl, e3, ⟨vs, hvs, hvd⟩, hrl, hrm, hr⟩
    have hxl := hxs.len
    rw [List.length_map] at hxl
    rw [hxl, List.take_length] at hr
    refine ⟨_, rfl, tup_d (sq_of hvs) hvd fun v7 H7 e7 hv7 => ⟨_, rfl, ?_⟩⟩
    refine tupN_d (ds := [.tuple (rows.map dRow), dRow (hdRow n l)]) (.cons hv7 (.cons (hr.ex e7) .nil)) (by show 2 ≤ 100; decide) fun v8 H8 e8 hv8 => ?_
    exact q v8 rows H8 ((e3.trans e7).trans e8) hv8 (by omega) hrm
end
end L2
set_option Elab.async false
set_option linter.all false
set_option maxRecDepth 100000
set_option maxHeartbeats 4000000
namespace L2
open PySem PySem.Spec PyProof.Rows Evl
/-! ### objects -/
abbrev lk (fs : List (Str × V)) (f : Str) : Option V := fs.lookup f
/-- all but what stands at p stays -/
def ExB (p : Addr) (H H' : Hp) : Prop := ∀ b o, b ≠ p → H b = some o → H' b = some o
theorem ExB.refl (p : Addr) (H : Hp) : ExB p H H := fun _ _ _ h => h
theorem ExB.ext {p : Addr} {H H1 H2 : Hp} (h : ExB p H H1) (e : Ex H1 H2) : ExB p H H2 := fun b o n q => e _ _ (h b o n q)
theorem ExB.fld {p : Addr} {H H1 : Hp} {o : HO} (h : ExB p H H1) : ExB p H (upd H1 p o) := fun b u n q => by rw [upd_ne n]; exact h b u n q
theorem ExB.mut {p q : Addr} {H H1 : Hp} {o : HO} (h : ExB p H H1) (n : H q = none) : ExB p H (upd H1 q o) := fun b u nb hb => by
  rw [upd_ne (ne_of_none hb n)]; exact h b u nb hb
theorem ExB.tp {p : Addr} {H H1 : Hp} (h : ExB p H H1) (s : Sft (H p)) : Tp H H1 := by
  refine ⟨fun b xs e => h b _ (fun z => by subst z; rw [e] at s; exact s) e, fun b o u e => h b _ (fun z => by subst z; rw [e] at s; exact s) e⟩
theorem ExB.ex {p : Addr} {H0 H H1 : Hp} (h : ExB p H H1) (e : Ex H0 H) (n : H0 p = none) : Ex H0 H1 := fun b o q => h b o (ne_of_none q n) (e b o q)
theorem ExB.none {p q : Addr} {H H1 : Hp} (h : ExB p H H1) (hq : H1 q = none) (ne : q ≠ p) : H q = none := by
  cases e : H q with
  | none => rfl
  | some o => rw [h q o ne e] at hq; cases hq
theorem lkE {g : Str} {y : V} {fs : List (Str × V)} : (putF g y fs).lookup g = some y := by rw [lookup_putF, if_pos rfl]
theorem lkN {g h : Str} {y : V} {fs : List (Str × V)} (n : ¬ h = g) : (putF g y fs).lookup h = fs.lookup h := by rw [lookup_putF, if_neg n]
theorem len_putF (g : Str) (y : V) : ∀ fs : List (Str × V), (putF g y fs).length ≤ fs.length + 1
  | [] => by simp [putF]
  | (k, v) :: fs => by
    unfold putF
    split
    · simp
    · have := len_putF g y fs
      simp
      omega
/-- a Method stands at a -/
structure MethAt (K : PySem.W.Frag) (cl : Cls6) (H : Hp) (a : Addr) (d : Wd) : Prop where
  ex : ∃ (dx : Addr) (fs : List (Str × V)) (vp vc vo : V) (ql qm qb : Addr) (kl kb : List (Key × V)) (ll lb : List Nat), H a = some (.ins cl.M dx fs) ∧ lk fs "stage" = some (.int d.st) ∧ lk fs "plain" = some vp ∧ Dt H vp (dCh d.plain) ∧
    lk fs "calls" = some vc ∧ Dt H vc (dCalls d.calls) ∧ lk fs "opening" = some vo ∧ Dt H vo (dRow (rgI d.st)) ∧
    lk fs "leads" = some (.ref ql) ∧ H ql = some (.dK kl) ∧ Tab (fun _ _ => True) kl ll ∧ ll.Perm (lts d) ∧
    lk fs "moves" = some (.ref qm) ∧ MvAt H qm d ∧
    lk fs "bodies" = some (.ref qb) ∧ H qb = some (.dK kb) ∧ Tab (fun _ v => ∃ rows : List (List Int), Dt H v (.tuple (rows.map dRow)) ∧ rows.length ≤ 12 ∧ ∀ r ∈ rows, Pm d.st r) kb lb ∧ lb.Perm (lts d)
theorem MethAt.ext {K : PySem.W.Frag} {cl : Cls6} {H H' : Hp} {a : Addr} {d : Wd} (h : MethAt K cl H a d) (e : Ex H H') : MethAt K cl H' a d := by
  obtain ⟨dx, fs, vp, vc, vo, ql, qm, qb, kl, kb, ll, lb, h1, h2, h3, h4, h5, h6, h7, h8, h9, h10, h11, h12, h13, h14, h15, h16, h17, h18⟩ := h.ex
  exact ⟨dx, fs, vp, vc, vo, ql, qm, qb, kl, kb, ll, lb, e _ _ h1, h2, h3, h4.ex e, h5, h6.ex e, h7, h8.ex e, h9, e _ _ h10, h11, h12, h13, h14.ex e, h15, e _ _ h16, h17.imp fun c v ⟨rows, q1, q2⟩ => ⟨rows, q1.ex e, q2⟩, h18⟩
theorem Dep.row (n : Nat) {r : List Int} (h : r.length ≤ 1000) : Dep (n + 1) (dRow r) := ⟨by rw [List.length_map]; exact h, fun d hd => by obtain ⟨i, _, rfl⟩ := List.mem_map.mp hd; cases n <;> trivial⟩
theorem Dep.ch {n : Nat} {l : List (List Int)} (h : l.length ≤ 1000) (hr : ∀ r ∈ l, r.length ≤ 1000) : Dep (n + 2) (dCh l) := ⟨by rw [List.length_map]; exact h, fun d hd => by obtain ⟨r, hm, rfl⟩ := List.mem_map.mp hd; exact .row n (hr r hm)⟩
theorem Dep.calls {n : Nat} {l : List (Nat × Nat × List (List Int))} (h : l.length ≤ 1000) (hr : ∀ c ∈ l, c.2.2.length ≤ 1000 ∧ ∀ r ∈ c.2.2, r.length ≤ 1000) : Dep (n + 4) (dCalls l) := by
  refine ⟨by rw [List.length_map]; exact h, fun d hd => ?_⟩
  obtain ⟨c, hm, rfl⟩ := List.mem_map.mp hd
  refine ⟨by show 3 ≤ 1000; decide, fun d hd => ?_⟩
  rcases List.mem_cons.mp hd with e | hd
  · subst e; trivial
  · rcases List.mem_cons.mp hd with e | hd
    · subst e; trivial
    · rw [List.mem_singleton.mp hd]; exact .ch (hr c hm).1 (hr c hm).2
theorem leadOf_call {d : Wd} (hd : WdOk d) {k : Nat × Nat × List (List Int)} (hk : k ∈ d.calls) : leadOf d k.1 = d.plain.take k.2.1 ++ k.2.2 ++ d.plain.drop (k.2.1 + k.2.2.length) := by
  have inj : ∀ {l : List (Nat × Nat × List (List Int))}, (l.map (·.1)).Nodup → ∀ {a b}, a ∈ l → b ∈ l → a.1 = b.1 → a = b := by
    intro l
    induction l with
    | nil => intro _ a b ha; cases ha
    | cons x l ih =>
      intro hn a b ha hb e
      rw [List.map_cons, List.nodup_cons] at hn
      rcases List.mem_cons.mp ha with ea | ha
      · rcases List.mem_cons.mp hb with eb | hb
        · rw [ea, eb]
        · exact absurd (List.mem_map.mpr ⟨b, hb, by rw [← e, ea]⟩) hn.1
      · rcases List.mem_cons.mp hb with eb | hb
        · exact absurd (List.mem_map.mpr ⟨a, ha, by rw [e, eb]⟩) hn.1
        · exact ih hn.2 ha hb e
  unfold leadOf leadIn
  cases e : d.calls.find? (fun j => j.1 == k.1) with
  | none =>
    rw [List.find?_eq_none] at e
    exact absurd (by simp) (e k hk)
  | some k' =>
    have h1 := List.mem_of_find?_eq_some e
    have h2 : k'.1 = k.1 := by simpa using List.find?_some e
    rw [inj hd.nd h1 hk h2]
theorem leadOf_p {d : Wd} (hd : WdOk d) : leadOf d 112 = d.plain := by
  unfold leadOf leadIn
  cases e : d.calls.find? (fun j => j.1 == 112) with
  | none => rfl
  | some k' =>
    have h1 := List.mem_of_find?_eq_some e
    have h2 : k'.1 = 112 := by simpa using List.find?_some e
    exact absurd h2 (hd.call k' h1).np
section
variable {P : Program} {w : World} {K : PySem.W.Frag} {mg : Str → Option Value} {base : Heap} {f : Addr} {fd : FuncData} {cl : Cls6}
abbrev s_Method_contains : Stmt := inClass (top 58) 8
abbrev N_Method_contains : List Str := ["self", "letter"]
theorem sc_Method_contains : FnScope N_Method_contains ["self", "letter"] (defScope s_Method_contains) := ⟨rfl, rfl, rfl, by decide +kernel, rfl, by decide +kernel, by decide +kernel⟩
def sp_Method_contains (K : PySem.W.Frag) (cl : Cls6) : Sp := fun vs H Q _ => ∃ (a : Addr) (d : Wd) (c : Nat), vs = [.ref a, .str (ch c)] ∧ MethAt K cl H a d ∧ c ∈ lts d ∧ Q (.bl true) H
theorem ok_Method_contains  (T : Txt K mg cl) (F : FnP K "__contains__" "Method.__contains__" s_Method_contains [] f fd)  : FnOk P w K mg base CX0 1 f fd ["self", "letter"] ((sp_Method_contains K cl)) := by
  refine F.ok sc_Method_contains (fun vs H Q E h => ?_) (fun cdv A outer s H vs Q E hr h => ?_)
  · unfold sp_Method_contains at h; (repeat obtain ⟨_, h⟩ := h); subst_vars; rfl
  have hu := hr.units
  refine ⟨_, PSs.nox (pss_one (ps_ret (pe_and (pe_callB call_isi (by rfl) T.b_isinstance (by decide +kernel) (pa_cons (pv 1) (pa_cons (pe_bltn (v := .ty "str") (u := .type "str") (by rfl) T.b_str (by decide +kernel) rfl) pa_nil))) (pe_one (pe_cmpR (op_inA (P := P) (w := w) (K := K) hu) (pv 1) (pe_fld (pv 0) rfl) (by rfl)))))), ?_⟩
  obtain ⟨a, d, c, rfl, hm, hc, q⟩ := h
  obtain ⟨dx, fs, vp, vc, vo, ql, qm, qb, kl, kb, ll, lb, h1, h2, h3, h4, h5, h6, h7, h8, h9, h10, h11, h12, h13, h14, h15, h16, h17, h18⟩ := hm.ex
  obtain ⟨v, hv, _⟩ := h11.get ((h12.mem_iff).mpr hc)
  refine rv_isi rfl (.base (.str _)) (kit2 (by decide +kernel : kitB "str" "str" = some true)) ⟨true, rfl, iT ⟨_, rfl, _, rfl, a, cl.M, dx, fs, _, rfl, h1, T.c_M, T.n_M_leads, h9, in_k (k := .inr (ch c)) (.inl h10) ?_⟩⟩
  rw [hv]
  exact q
abbrev s_Method_eq : Stmt := inClass (top 58) 11
abbrev N_Method_eq : List Str := ["self", "other"]
theorem sc_Method_eq : FnScope N_Method_eq ["self", "other"] (defScope s_Method_eq) := ⟨rfl, rfl, rfl, by decide +kernel, rfl, by decide +kernel, by decide +kernel⟩
def sp_Method_eq (K : PySem.W.Frag) (cl : Cls6) : Sp := fun vs H Q _ => ∃ (a b : Addr) (d : Wd), vs = [.ref a, .ref b] ∧ MethAt K cl H a d ∧ MethAt K cl H b d ∧ WdOk d ∧ Q (.bl true) H
theorem cmp_ch (l : List (List Int)) : Cmp 2 (dCh l) := .map fun x _ => .row x
theorem cmp_calls {l : List (Nat × Nat × List (List Int))} (h : ∀ c ∈ l, c.1 ≤ 122) : Cmp 4 (dCalls l) := .map fun c hc => .list fun x hx => by
  rcases List.mem_cons.mp hx with e | hx
  · rw [e]; exact .ch 2 (h c hc)
  · rcases List.mem_cons.mp hx with e | hx
    · rw [e]; exact .int 2 _
    · rw [List.mem_singleton.mp hx]; exact cmp_ch _
theorem ok_Method_eq  (T : Txt K mg cl) (F : FnP K "__eq__" "Method.__eq__" s_Method_eq [] f fd)  : FnOk P w K mg base CX0 1 f fd ["self", "other"] ((sp_Method_eq K cl)) := by
  refine F.ok sc_Method_eq (fun vs H Q E h => ?_) (fun cdv A outer s H vs Q E hr h => ?_)
  · unfold sp_Method_eq at h; (repeat obtain ⟨_, h⟩ := h); subst_vars; rfl
  have hu := hr.units
  refine ⟨_, PSs.nox (pss_cons (ps_if (pt_not (pt_val (pe_callB call_isi (by rfl) T.b_isinstance (by decide +kernel) (pa_cons (pv 1) (pa_cons (pe_glob (v := .ref cl.M) (by rfl) T.g_Method rfl) pa_nil))))) pss_never pss_nil)
      (pss_one (ps_ret (pe_and (pe_cmpR (op_eqA (K := K) hu) (pe_fld (pv 0) rfl) (pe_fld (pv 1) rfl) (nomark _)) (pe_and (pe_cmpR (op_eqA (K := K) hu) (pe_fld (pv 0) rfl) (pe_fld (pv 1) rfl) (nomark _)) (pe_one (pe_cmpR (op_eqA (K := K) hu) (pe_fld (pv 0) rfl) (pe_fld (pv 1) rfl) (nomark _)))))))), ?_⟩
  obtain ⟨a, b, d, rfl, hm, hn, hd, q⟩ := h
  obtain ⟨dx, fs, vp, vc, vo, ql, qm, qb, kl, kb, ll, lb, h1, h2, h3, h4, h5, h6, _⟩ := hm.ex
  obtain ⟨ex, gs, wp, wc, wo, rl, rm, rb, jl, jb, ml, mb, g1, g2, g3, g4, g5, g6, _⟩ := hn.ex
  refine ⟨_, rfl, _, _, _, _, true, rfl, .own _, T.i_M.ty _ _ _ _ g1, T.i_M.one, _, rfl, iF ?_⟩
  refine ⟨_, rfl, a, cl.M, dx, fs, _, rfl, h1, T.c_M, T.n_M_stage, h2, _, rfl, b, cl.M, ex, gs, _, rfl, g1, T.c_M, T.n_M_stage, g2, eq_i ⟨true, by simp, iT ?_⟩⟩
  refine ⟨_, rfl, a, cl.M, dx, fs, _, rfl, h1, T.c_M, T.n_M_plain, h3, _, rfl, b, cl.M, ex, gs, _, rfl, g1, T.c_M, T.n_M_plain, g3, eq_self h4.dp g4.dp (cmp_ch _) (by decide) ⟨true, rfl, iT ?_⟩⟩
  exact ⟨_, rfl, a, cl.M, dx, fs, _, rfl, h1, T.c_M, T.n_M_calls, h5, _, rfl, b, cl.M, ex, gs, _, rfl, g1, T.c_M, T.n_M_calls, g5, eq_self h6.dp g6.dp (cmp_calls fun c hc => (hd.call c hc).hi) (by decide) q⟩
theorem flt_ch (l : List (List Int)) : Flt (dCh l) := flts_of fun d hd => by obtain ⟨r, _, rfl⟩ := List.mem_map.mp hd; exact flt_row r
theorem tab_tp {H H' : Hp} {g : Nat → List (List Int)} {kvs : List (Key × V)} {ls : List Nat} (h : Tab (fun c v => Dp K H v (dCh (g c))) kvs ls) (t : Tp H H') : Tab (fun c v => Dp K H' v (dCh (g c))) kvs ls := h.imp fun c v q => Dp.tp t _ _ (flt_ch _) q
abbrev BdR (d : Wd) (H : Hp) (v : V) : Prop := ∃ rows : List (List Int), Dt H v (.tuple (rows.map dRow)) ∧ rows.length ≤ 12 ∧ ∀ r ∈ rows, Pm d.st r
theorem BdR.tp {d : Wd} {H H' : Hp} {v : V} (h : BdR d H v) (t : Tp H H') : BdR d H' v := by
  obtain ⟨rows, h1, h2⟩ := h
  exact ⟨rows, h1.tp t, h2⟩
abbrev s_Method_init : Stmt := inClass (top 58) 1
abbrev N_Method_init : List Str := ["self", "stage", "plain", "calls", "lead", "kept", "leads", "at", "many", "moves", "bodies", "letter", "rows", "end"]
theorem sc_Method_init : FnScope N_Method_init ["self", "stage", "plain", "calls"] (defScope s_Method_init) := ⟨rfl, rfl, rfl, by decide +kernel, rfl, by decide +kernel, by decide +kernel⟩
def sp_Method_init (K : PySem.W.Frag) (cl : Cls6) : Sp := fun vs H Q _ => ∃ (p dx : Addr) (x y : V) (d : Wd), vs = [.ref p, .int d.st, x, y] ∧ H p = some (.ins cl.M dx []) ∧ Dt H x (dCh d.plain) ∧ Dt H y (dCalls d.calls) ∧ WdOk d ∧ ∀ H', ExB p H H' → MethAt K cl H' p d → Q .non H'
theorem ok_Method_init  {dv0 : List V} (T : Txt K mg cl) (F : FnP K "__init__" "Method.__init__" s_Method_init dv0 f fd) (G_is_integer : GDef P w K mg base "is_integer" 1 ["thing", "low", "high"] [] (sp_is_integer)) (G_deep : GDef P w K mg base "deep" 9 ["thing", "level"] [.int 0] (sp_deep K 8)) (G_check_plain : GDef P w K mg base "check_plain" 4 ["plain", "stage"] [] ((sp_check_plain K))) (G_check_calls : GDef P w K mg base "check_calls" 6 ["calls", "stage", "size"] [] ((sp_check_calls K))) (G_first_row : GDef P w K mg base "first_row" 1 ["stage"] [] (sp_first_row)) (G_rows_through : GDef P w K mg base "rows_through" 2 ["stage", "lead"] [] ((sp_rows_through K))) : FnOk P w K mg base CX0 10 f fd ["self", "stage", "plain", "calls"] ((sp_Method_init K cl)) := by
  refine F.ok sc_Method_init (fun vs H Q E h => ?_) (fun cdv A outer s H vs Q E hr h => ?_)
  · unfold sp_Method_init at h; (repeat obtain ⟨_, h⟩ := h); subst_vars; rfl
  have hu := hr.units
  refine ⟨_, PSs.nox (pss_cons (ps_if (pt_not (pt_val (pe_g G_is_integer hr (pa_cons (pv 1) (pa_cons pe_int (pa_cons pe_int pa_nil)))))) pss_never pss_nil)
      (pss_cons (ps_set (i := 4) sc_Method_init.nd rfl (Or.inl rfl) (pe_g G_deep hr (pa_cons (pv 2) pa_nil)))
      (pss_cons (ps_expr (pe_g G_check_plain hr (pa_cons (pv 4) (pa_cons (pv 1) pa_nil))))
      (pss_cons (ps_set (i := 5) sc_Method_init.nd rfl (Or.inl rfl) (pe_g G_deep hr (pa_cons (pv 3) pa_nil)))
      (pss_cons (ps_expr (pe_g G_check_calls hr (pa_cons (pv 5) (pa_cons (pv 1) (pa_cons (pe_callB (call_lenA (P := P) (w := w) (K := K)) (by rfl) T.b_len (by decide +kernel) (pa_cons (pv 4) pa_nil)) pa_nil)))))
      (pss_cons (ps_fld (pv 0) (pv 1) rfl)
      (pss_cons (ps_fld (pv 0) (pv 4) rfl)
      (pss_cons (ps_fld (pv 0) (pv 5) rfl)
      (pss_cons (ps_fld (pv 0) (pe_g G_first_row hr (pa_cons (pv 1) pa_nil)) rfl)
      (pss_cons (ps_set (i := 6) sc_Method_init.nd rfl (Or.inl rfl) (pe_disp (pps_cons pe_str (pv 4) pps_nil) (by rfl) (by rfl) (fun z => by cases z) (by decide)))
      (pss_cons (ps_for PassesOwn.never rfl (pi_tup (pv 5)) (pg_tup rfl (pgs_cons (pg_name (i := 11) sc_Method_init.nd rfl (Or.inl rfl)) (pgs_cons (pg_name (i := 7) sc_Method_init.nd rfl (Or.inl rfl)) (pgs_cons (pg_name (i := 8) sc_Method_init.nd rfl (Or.inl rfl)) pgs_nil)))) (pss_one (ps_asg (pe_op (op_addA (K := K)) (pe_op (op_addA (K := K)) (pe_slice (sl_A (K := K)) (pv 4) po_none (po_some (pv 7))) (pv 8)) (pe_slice (sl_A (K := K)) (pv 4) (po_some (pe_op (op_addA (K := K)) (pv 7) (pe_callB (call_lenA (P := P) (w := w) (K := K)) (by rfl) T.b_len (by decide +kernel) (pa_cons (pv 8) pa_nil)))) po_none)) (pg_sub (pv 6) (pv 11) (set_A (P := P) (w := w) (K := K) hu)))))
      (pss_cons (ps_set (i := 9) sc_Method_init.nd rfl (Or.inl rfl) pe_dnewK)
      (pss_cons (ps_set (i := 10) sc_Method_init.nd rfl (Or.inl rfl) pe_dnewK)
      (pss_cons (ps_for PassesOwn.never rfl (pi_list (pe_callB (call_sortedD rfl) (by rfl) T.b_sorted (by decide +kernel) (pa_cons (pv 6) pa_nil))) (pg_name (i := 11) sc_Method_init.nd rfl (Or.inl rfl)) (pss_cons (ps_asg (pe_g G_rows_through hr (pa_cons (pv 1) (pa_cons (pe_ix (ix_A (P := P) (w := w) (K := K) hu) (pv 6) (pv 11) (fun _ _ => rfl)) pa_nil))) (pg_tup rfl (pgs_cons (pg_name (i := 12) sc_Method_init.nd rfl (Or.inl rfl)) (pgs_cons (pg_name (i := 13) sc_Method_init.nd rfl (Or.inl rfl)) pgs_nil))))
      (pss_cons (ps_asg (pv 12) (pg_sub (pv 10) (pv 11) (set_A (P := P) (w := w) (K := K) hu)))
      (pss_one (ps_asg (pv 13) (pg_sub (pv 9) (pv 11) (set_A (P := P) (w := w) (K := K) hu)))))))
      (pss_cons (ps_fld (pv 0) (pv 6) rfl)
      (pss_cons (ps_fld (pv 0) (pe_callTy (call_tupN (K := K)) (by rfl) T.b_tuple (by decide +kernel) (pa_cons (pe_callB (call_sortedD rfl) (by rfl) T.b_sorted (by decide +kernel) (pa_cons (pv 6) pa_nil)) pa_nil)) rfl)
      (pss_cons (ps_fld (pv 0) (pv 9) rfl)
      (pss_one (ps_fld (pv 0) (pv 10) rfl))))))))))))))))))), ?_⟩
  obtain ⟨p, dx, x, y, d, rfl, hp, hx, hy, hd, q⟩ := h
  have h3 := hd.s3
  have h8 := hd.s8
  have h12 := hd.p32
  have hp1 := hd.p1
  have h5 := hd.c5
  have rl : ∀ c ∈ d.plain, c.length ≤ 1000 := fun c hc => by have := (hd.mad c hc).len; omega
  have rc : ∀ c ∈ d.calls, c.2.2.length ≤ 1000 ∧ ∀ r ∈ c.2.2, r.length ≤ 1000 := fun c hc => ⟨by have := (hd.call c hc).fit; omega, fun r hr => by have := ((hd.call c hc).mad r hr).len; omega⟩
  have nt : ∀ {H1 : Hp}, ExB p H H1 → Tp H H1 := fun e => e.tp (by rw [hp]; trivial)
  refine ⟨_, rfl, _, 3, 8, rfl, true, by simp; omega, iF ?_⟩
  refine ⟨_, rfl, x, dCh d.plain, 0, rfl, hx.dp, Dep.ch (n := 6) (by omega) rl, by omega, by omega, fun vp H1 e1 hvp => ?_⟩
  refine ⟨_, rfl, _, rfl, vp, d.plain, d.st, rfl, hvp.dp, hp1, by omega, hd.mad, h8, fun H2 e2 => ?_⟩
  have e12 := e1.trans e2
  refine ⟨_, rfl, y, dCalls d.calls, 0, rfl, (hy.ex e12).dp, Dep.calls (n := 4) (by omega) rc, by omega, by omega, fun vc H3 e3 hvc => ?_⟩
  have hvp3 := (hvp.ex e2).ex e3
  refine ⟨_, rfl, _, rfl, _, rfl, len_t (ds := d.plain.map dRow) hvp3.dp ⟨vc, d.calls, d.st, d.plain.length, by rw [List.length_map]; rfl, hvc.dp, hd.call, hd.nd, h5, h8, fun H4 e4 => ?_⟩⟩
  have e14 := (e12.trans e3).trans e4
  have hvp4 := hvp3.ex e4
  have hvc4 := hvc.ex e4
  have hp4 := e14 _ _ hp
  have b4 : ExB p H H4 := (ExB.refl p H).ext e14
  have hvc4' := hvc4
  obtain ⟨aC, oC, xC, rfl, hC1, hC2, hC3⟩ := hvc4.tupI
  -- the first four fields
  refine ⟨_, rfl, _, rfl, p, cl.M, dx, _, rfl, hp4, T.c_M, T.n_M_stage, by show 0 < 1000; decide, ?_⟩
  refine ⟨_, rfl, _, rfl, p, cl.M, dx, _, rfl, upd_same, T.c_M, T.n_M_plain, by show 1 < 1000; decide, ?_⟩
  rw [upd_upd]
  refine ⟨_, rfl, _, rfl, p, cl.M, dx, _, rfl, upd_same, T.c_M, T.n_M_calls, by show 2 < 1000; decide, ?_⟩
  rw [upd_upd]
  generalize eF3 : putF "calls" (V.ref aC) (putF "plain" vp (putF "stage" (V.int d.st) [])) = F3
  have lF3 : F3.length ≤ 3 := by rw [← eF3]; have a1 := len_putF "calls" (V.ref aC) (putF "plain" vp (putF "stage" (V.int d.st) [])); have a2 := len_putF "plain" vp (putF "stage" (V.int d.st) []); have a3 := len_putF "stage" (V.int d.st) []; simp at a3; omega
  have b5 : ExB p H (upd H4 p (.ins cl.M dx F3)) := b4.fld
  refine ⟨_, rfl, d.st, rfl, h8, fun vo H5 e5 hvo => ⟨_, rfl, p, cl.M, dx, _, rfl, e5 _ _ upd_same, T.c_M, T.n_M_opening, by omega, ?_⟩⟩
  generalize eF4 : putF "opening" vo F3 = F4
  have lF4 : F4.length ≤ 4 := by rw [← eF4]; have := len_putF "opening" vo F3; omega
  have s4 : Tp H4 (upd H4 p (.ins cl.M dx F3)) := Tp.upd (by rw [hp4]; trivial)
  have s5 : Tp H5 (upd H5 p (.ins cl.M dx F4)) := Tp.upd (by rw [e5 _ _ upd_same]; trivial)
  have s46 : Tp H4 (upd H5 p (.ins cl.M dx F4)) := (s4.trans (Tp.of e5)).trans s5
  have b6 : ExB p H (upd H5 p (.ins cl.M dx F4)) := (b5.ext e5).fld
  have hp6 : upd H5 p (.ins cl.M dx F4) p = some (.ins cl.M dx F4) := upd_same
  have hvo6 := hvo.tp s5
  generalize eH6 : upd H5 p (.ins cl.M dx F4) = H6 at s5 s46 b6 hp6 hvo6 ⊢
  -- leads
  refine fun L hL => ⟨_, rfl, upd_same, [(.inr "p", vp)], rfl, by show 1 ≤ 15; decide, ?_⟩
  rw [upd_upd]
  have neL : L ≠ p := fun z => by rw [z, hp6] at hL; cases hL
  have nL : H L = none := b6.none hL neL
  have e7 : Ex H6 (upd H6 L (.dK [(.inr "p", vp)])) := Ex.new hL
  have hC7 := e7 _ _ (s46.2 _ _ _ hC1)
  refine ⟨_, rfl, aC, rfl, ⟨xC, .inl (.inr ⟨oC, hC7⟩)⟩, ?_⟩
  refine for_it (walk_tup (xs := xC)) (fun i σ H8 => ∃ (t7 t8 t11 : Option V) (kvs : List (Key × V)), σ = [some (.ref p), some (.int d.st), some x, some y, some vp, some (.ref aC), some (.ref L), t7, t8, none, none, t11, none, none] ∧ ExB p H H8 ∧ H8 p = some (.ins cl.M dx F4) ∧ Tp H6 H8 ∧ H8 L = some (.dK kvs) ∧ Tab (fun c v => Dp K H8 v (dCh (leadOf d c))) kvs (112 :: (d.calls.take i).map (·.1)))
    ⟨none, none, none, _, rfl, b6.ext e7, e7 _ _ hp6, Tp.of e7, upd_same, .cons ⟨rfl, by show Dp K _ vp (dCh (leadOf d 112)); rw [leadOf_p hd]; exact ((hvp4.tp s46).ex e7).dp⟩ .nil⟩ (fun i σ H2 _ ⟨_, _, _, _, _, _, _, t, _⟩ => .inl (.inr ⟨oC, t.2 _ _ _ (s46.2 _ _ _ hC1)⟩)) ?_ ?_
  · rintro i yy σ H8 H9 hi ⟨t7, t8, t11, kvs, rfl, b8, hp8, t68, hL8, htab⟩ ⟨rfl, hyy⟩
    have s49 := s46.trans t68
    obtain ⟨dy, hdy, hyd⟩ := (hC3.tp s49).get hyy
    obtain ⟨k, hk, rfl⟩ := mapD_get hdy
    have hkm := List.mem_of_getElem? hk
    have hko := hd.call k hkm
    have hf := hko.fit
    have htk : d.calls.take (i + 1) = d.calls.take i ++ [k] := by rw [List.take_succ, hk]; rfl
    obtain ⟨b, ob, ys, rfl, hb, _, hys⟩ := hyd.tupI
    cases hys with
    | cons g1 hys => cases hys with
    | cons g2 hys => cases hys with
    | cons g3 hys =>
    cases hys
    obtain rfl := g1.strI
    obtain rfl := g2.intI
    rename_i vm
    refine ⟨b, _, rfl, .inl (.inr ⟨ob, hb⟩), rfl, _, _, rfl, _, _, rfl, _, _, rfl, rfl, ?_⟩
    have hvp9 := (hvp4.tp s49).dp (K := K)
    refine ⟨_, rfl, ⟨_, rfl, _, rfl, slc_t (ds := d.plain.map dRow) hvp9 fun v1 G1 a1 hv1 => ?_⟩⟩
    rw [HT.sIx_none, HT.sIx_nat, List.drop_zero, Nat.sub_zero, List.length_map, Nat.min_eq_left (by omega), ← List.map_take] at hv1
    refine ⟨_, rfl, add_t hv1 (es := k.2.2.map dRow) (g3.ex a1).dp (by rw [List.length_map, List.length_map, List.length_take, sizeLine_eq]; omega) fun v2 G2 a2 hv2 => ?_⟩
    rw [← List.map_append] at hv2
    refine ⟨_, rfl, ⟨_, rfl, _, rfl, len_t (ds := k.2.2.map dRow) ((g3.ex a1).ex a2).dp (add_i ⟨_, rfl, slc_t (ds := d.plain.map dRow) ((hvp9.ex a1).ex a2) fun v3 G3 a3 hv3 => ?_⟩)⟩⟩
    rw [List.length_map, List.length_map, show ((k.2.1 : Nat) : Int) + ((k.2.2.length : Nat) : Int) = ((k.2.1 + k.2.2.length : Nat) : Int) by omega, HT.sIx_none, HT.sIx_nat, Nat.min_eq_left (by omega), List.take_of_length_le (by rw [List.length_drop, List.length_map]; exact Nat.le_refl _), ← List.map_drop] at hv3
    refine add_t (hv2.ex a3) hv3 (by rw [List.length_map, List.length_map, List.length_append, List.length_take, List.length_drop, sizeLine_eq]; omega) fun v4 G4 a4 hv4 => ?_
    rw [← List.map_append] at hv4
    have hv4 : Dp K G4 v4 (dCh (leadOf d k.1)) := by rw [leadOf_call hd hkm]; exact hv4
    have aA := ((a1.trans a2).trans a3).trans a4
    have hL10 := aA _ _ hL8
    have hnot : k.1 ∉ (112 :: (d.calls.take i).map (·.1)) := by
      have hnd := lts_nodup hd
      unfold lts at hnd
      rw [← List.take_append_drop (i + 1) d.calls, htk, List.map_append, List.map_append, List.append_assoc, ← List.cons_append, List.nodup_append] at hnd
      intro hm
      exact hnd.2.2 k.1 hm k.1 (by simp) rfl
    refine ⟨_, rfl, _, rfl, set_k (k := .inr (ch k.1)) hL10 (by rw [htab.len, sizeLine_eq, List.length_cons, List.length_map, List.length_take]; omega) ?_⟩
    have sL : Tp G4 (upd G4 L (.dK (putK kvs (.inr (ch k.1)) v4))) := Tp.upd (by rw [hL10]; trivial)
    refine ⟨_, _, _, _, rfl, (b8.ext aA).mut nL, by rw [upd_ne (Ne.symm neL)]; exact aA _ _ hp8, (t68.trans (Tp.of aA)).trans sL, upd_same, ?_⟩
    rw [htk, List.map_append, ← List.cons_append]
    exact (tab_tp htab ((Tp.of aA).trans sL)).put hnot (Dp.tp sL _ _ (flt_ch _) hv4)
  rintro σ H8 ⟨t7, t8, t11, kvs, rfl, b8, hp8, t68, hL8, htab⟩
  have eall : (112 :: (d.calls.take xC.length).map (·.1)) = lts d := by rw [hC3.len, List.length_map, List.take_length]; rfl
  rw [eall] at htab
  -- moves, bodies
  intro M hM
  have e9 : Ex H8 (upd H8 M (.dK [])) := Ex.new hM
  have neM : M ≠ p := fun z => by rw [z, hp8] at hM; cases hM
  have nM : H M = none := b8.none hM neM
  intro B hB
  have e10 : Ex (upd H8 M (.dK [])) (upd (upd H8 M (.dK [])) B (.dK [])) := Ex.new hB
  have hM9 : upd H8 M (.dK []) M = some (.dK []) := upd_same
  have neB : B ≠ p := fun z => by rw [z, e9 _ _ hp8] at hB; cases hB
  have nB : H B = none := (b8.ext e9).none hB neB
  have neMB : M ≠ B := fun z => by rw [← z, hM9] at hB; cases hB
  have e8a := e9.trans e10
  generalize eHa : upd (upd H8 M (.dK [])) B (.dK []) = Ha at e10 e8a ⊢
  have hMa : Ha M = some (.dK []) := e10 _ _ hM9
  have hBa : Ha B = some (.dK []) := by rw [← eHa]; exact upd_same
  have hLa := e8a _ _ hL8
  refine ⟨_, rfl, L, kvs, (lts d).map ch, rfl, .inl hLa, htab.keys, by rw [List.length_map]; have := lts_len hd; omega, fun ys S hys _ hS => ?_⟩
  obtain ⟨ms, hms, rfl⟩ := perm_ch hys
  have e11 : Ex Ha (upd Ha S (.lst ((ms.map ch).map V.str))) := Ex.new hS
  have hS12 : upd Ha S (.lst ((ms.map ch).map V.str)) S = some (.lst ((ms.map ch).map V.str)) := upd_same
  generalize eHb : upd Ha S (.lst ((ms.map ch).map V.str)) = Hb at e11 hS12 ⊢
  have hmnd : ms.Nodup := (hms.nodup_iff).mpr (lts_nodup hd)
  have hmm : ∀ c ∈ ms, c ∈ lts d := fun c hc => (hms.mem_iff).mp hc
  have e8b := e8a.trans e11
  refine ⟨S, rfl, ⟨_, sq_of hS12⟩, ?_⟩
  have neSM : S ≠ M := fun z => by rw [z, hMa] at hS; cases hS
  have neSB : S ≠ B := fun z => by rw [z, hBa] at hS; cases hS
  have neLM : L ≠ M := fun z => by rw [← z, hL8] at hM; cases hM
  have neLB : L ≠ B := fun z => by rw [← z, e9 _ _ hL8] at hB; cases hB
  refine for_it (walk_list (xs := (ms.map ch).map V.str)) (fun i σ H9 => ∃ (t11 t12 t13 : Option V) (km kb : List (Key × V)), σ = [some (.ref p), some (.int d.st), some x, some y, some vp, some (.ref aC), some (.ref L), t7, t8, some (.ref M), some (.ref B), t11, t12, t13] ∧ ExB p H H9 ∧ H9 p = some (.ins cl.M dx F4) ∧ Tp H8 H9 ∧ H9 S = some (.lst ((ms.map ch).map V.str)) ∧ H9 L = some (.dK kvs) ∧ H9 M = some (.dK km) ∧ H9 B = some (.dK kb) ∧ Tab (fun c v => Dt H9 v (dRow (mvD d c))) km (ms.take i) ∧ Tab (fun _ v => BdR d H9 v) kb (ms.take i))
    ⟨t11, none, none, [], [], rfl, b8.ext e8b, e8b _ _ hp8, Tp.of e8b, hS12, e11 _ _ hLa, e11 _ _ hMa, e11 _ _ hBa, .nil, .nil⟩ (fun i σ H2 _ ⟨_, _, _, _, _, _, _, _, _, h, _⟩ => sq_of h) ?_ ?_
  · rintro i yy σ H9 H10 hi ⟨s11, s12, s13, km, kb, rfl, b9, hp9, t89, hS9, hL9, hM9, hB9, htm, htb⟩ ⟨rfl, hyy⟩
    rw [List.map_map] at hyy
    obtain ⟨c, hc, rfl⟩ : ∃ c, ms[i]? = some c ∧ yy = V.str (ch c) := by
      rw [List.getElem?_map] at hyy
      cases hk : ms[i]? with
      | none => rw [hk] at hyy; cases hyy
      | some c => rw [hk] at hyy; exact ⟨c, rfl, (Option.some.inj hyy).symm⟩
    have hcm := hmm c (List.mem_of_getElem? hc)
    have htk : ms.take (i + 1) = ms.take i ++ [c] := by rw [List.take_succ, hc]; rfl
    have hnot : c ∉ ms.take i := by
      intro hm
      rw [← List.take_append_drop (i + 1) ms, htk, List.append_assoc, List.nodup_append] at hmnd
      exact hmnd.2.2 c hm c (by simp) rfl
    obtain ⟨vl, hvl, hdl⟩ := (tab_tp htab t89).get hcm
    have lf := leadIn_facts (n := d.st) (plain := d.plain) (cs := d.calls) c hd.mad hd.call
    refine ⟨_, rfl, _, rfl, _, rfl, ix_k (k := .inr (ch c)) (.inl hL9) hvl ⟨vl, leadOf d c, d.st, rfl, hdl, h8, by unfold leadOf; rw [lf.2]; omega, lf.1, fun v1 rows G1 a1 hv1 hr1 hr2 => ?_⟩⟩
    obtain ⟨b1, ob1, zs, rfl, hb1, _, hzs⟩ := hv1.tupI
    cases hzs with
    | cons g1 hzs => cases hzs with
    | cons g2 hzs =>
    cases hzs
    rename_i vr ve
    refine ⟨b1, _, rfl, .inl (.inr ⟨ob1, hb1⟩), rfl, _, _, rfl, _, _, rfl, rfl, ?_⟩
    have hB1 := a1 _ _ hB9
    have hM1 := a1 _ _ hM9
    have hl6 : ms.length ≤ 6 := by rw [hms.length_eq]; exact lts_len hd
    refine ⟨_, rfl, _, rfl, _, rfl, set_k (k := .inr (ch c)) hB1 (by rw [htb.len, sizeLine_eq, List.length_take]; omega) ?_⟩
    have u1 : Tp G1 (upd G1 B (.dK (putK kb (.inr (ch c)) vr))) := Tp.upd (by rw [hB1]; trivial)
    have hM2 : upd G1 B (.dK (putK kb (.inr (ch c)) vr)) M = some (.dK km) := by rw [upd_ne neMB]; exact hM1
    refine ⟨_, rfl, _, rfl, _, rfl, set_k (k := .inr (ch c)) hM2 (by rw [htm.len, sizeLine_eq, List.length_take]; omega) ?_⟩
    have u2 : Tp (upd G1 B (.dK (putK kb (.inr (ch c)) vr))) (upd (upd G1 B (.dK (putK kb (.inr (ch c)) vr))) M (.dK (putK km (.inr (ch c)) ve))) := Tp.upd (by rw [hM2]; trivial)
    have u12 := u1.trans u2
    have uA := (Tp.of a1).trans u12
    have keep : ∀ q o, q ≠ M → q ≠ B → H10 q = some o → upd (upd G1 B (.dK (putK kb (.inr (ch c)) vr))) M (.dK (putK km (.inr (ch c)) ve)) q = some o := fun q o n1 n2 hq => by rw [upd_ne n1, upd_ne n2]; exact a1 _ _ hq
    refine ⟨_, _, _, _, _, rfl, ((b9.ext a1).mut nB).mut nM, keep p _ (Ne.symm neM) (Ne.symm neB) hp9, t89.trans uA, keep S _ neSM neSB hS9, keep L _ neLM neLB hL9, upd_same, by rw [upd_ne (Ne.symm neMB)]; exact upd_same, ?_, ?_⟩
    · rw [htk]
      exact (htm.imp fun c v q => q.tp uA).put hnot (g2.tp u12)
    · rw [htk]
      exact (htb.imp fun c v q => q.tp uA).put hnot ⟨rows, g1.tp u12, by rw [hr1]; unfold leadOf; rw [lf.2]; exact h12, hr2⟩
  rintro σ H9 ⟨s11, s12, s13, km, kb, rfl, b9, hp9, t89, hS9, hL9, hM9, hB9, htm, htb⟩
  rw [List.length_map, List.length_map, List.take_length] at htm htb
  have s89 := s46.trans (t68.trans t89)
  refine ⟨_, rfl, _, rfl, p, cl.M, dx, _, rfl, hp9, T.c_M, T.n_M_leads, by omega, ?_⟩
  generalize eF5 : putF "leads" (V.ref L) F4 = F5
  have lF5 : F5.length ≤ 5 := by rw [← eF5]; have := len_putF "leads" (V.ref L) F4; omega
  have u3 : Tp H9 (upd H9 p (.ins cl.M dx F5)) := Tp.upd (by rw [hp9]; trivial)
  have hL10 : upd H9 p (.ins cl.M dx F5) L = some (.dK kvs) := by rw [upd_ne neL]; exact hL9
  refine ⟨_, rfl, L, kvs, (lts d).map ch, rfl, .inl hL10, htab.keys, by rw [List.length_map]; have := lts_len hd; omega, fun ys S2 hys2 _ hS2 => ?_⟩
  have e12 : Ex (upd H9 p (.ins cl.M dx F5)) (upd (upd H9 p (.ins cl.M dx F5)) S2 (.lst (ys.map V.str))) := Ex.new hS2
  refine tup_l (sq_of upd_same) fun R oR hR hoR => ?_
  have e13 := e12.trans (Ex.new (o := .frz oR (.tup (ys.map V.str))) hR)
  refine ⟨_, rfl, p, cl.M, dx, _, rfl, e13 _ _ upd_same, T.c_M, T.n_M_row_of_letters, by omega, ?_⟩
  generalize eF6 : putF "row_of_letters" (V.ref R) F5 = F6
  have lF6 : F6.length ≤ 6 := by rw [← eF6]; have := len_putF "row_of_letters" (V.ref R) F5; omega
  refine ⟨_, rfl, _, rfl, p, cl.M, dx, _, rfl, upd_same, T.c_M, T.n_M_moves, by omega, ?_⟩
  rw [upd_upd]
  generalize eF7 : putF "moves" (V.ref M) F6 = F7
  have lF7 : F7.length ≤ 7 := by rw [← eF7]; have := len_putF "moves" (V.ref M) F6; omega
  refine ⟨_, rfl, _, rfl, p, cl.M, dx, _, rfl, upd_same, T.c_M, T.n_M_bodies, by omega, ?_⟩
  rw [upd_upd]
  generalize eF8 : putF "bodies" (V.ref B) F7 = F8
  have u4 := u3.trans (Tp.of e13)
  generalize eHz : upd (upd (upd H9 p (.ins cl.M dx F5)) S2 (.lst (ys.map V.str))) R (.frz oR (.tup (ys.map V.str))) = Hz at e13 u4 ⊢
  have u5 : Tp Hz (upd Hz p (.ins cl.M dx F8)) := Tp.upd (by rw [e13 _ _ upd_same]; trivial)
  have u95 := u4.trans u5
  have u45 := s89.trans u95
  have keep : ∀ q o, q ≠ p → H9 q = some o → upd Hz p (.ins cl.M dx F8) q = some o := fun q o n hq => by
    rw [upd_ne n]
    exact e13 _ _ (by rw [upd_ne n]; exact hq)
  refine q _ ((b9.fld.ext e13).fld) ⟨dx, F8, vp, .ref aC, vo, L, M, B, kvs, kb, lts d, ms, upd_same, ?_, ?_, hvp4.tp u45, ?_, hvc4'.tp u45, ?_, hvo6.tp ((t68.trans t89).trans u95), ?_, keep L _ neL hL9, htab.imp fun _ _ _ => trivial, List.Perm.refl _, ?_, ⟨km, ms, keep M _ neM hM9, htm.imp fun c v q => q.tp u95, hms⟩, ?_, keep B _ neB hB9, htb.imp fun c v q => q.tp u95, hms⟩
  all_goals subst eF8 eF7 eF6 eF5 eF4 eF3
  all_goals (show List.lookup _ _ = _; repeat (first | exact lkE | rw [lkN (by decide +kernel)]))
end
end L2
set_option Elab.async false
set_option linter.all false
set_option maxRecDepth 100000
set_option maxHeartbeats 4000000
namespace L2
open PySem PySem.Spec PyProof.Rows Evl
/-- data of an entry of the bell b -/
abbrev dEnt (b : Int) (e : Ent) : PyData := .tuple [.int e.1, .tuple [.tuple [.int b, dRow [(e.2.1 : Int) + 1]]], .str (ch e.2.2.1), .int e.2.2.2]
abbrev dEnts (b : Int) (l : List Ent) : PyData := .tuple (l.map (dEnt b))
section
variable {P : Program} {w : World} {K : PySem.W.Frag} {mg : Str → Option Value} {base : Heap} {f : Addr} {fd : FuncData} {cl : Cls6}
abbrev s_check_calling : Stmt := top 34
abbrev N_check_calling : List Str := ["method", "calling", "number", "letter"]
theorem sc_check_calling : FnScope N_check_calling ["method", "calling"] (defScope s_check_calling) := ⟨rfl, rfl, rfl, by decide +kernel, rfl, by decide +kernel, by decide +kernel⟩
def sp_check_calling (K : PySem.W.Frag) (cl : Cls6) : Sp := fun vs H Q _ => ∃ (a : Addr) (d : Wd) (us : List Nat), vs = [.ref a, .str (tx us)] ∧ MethAt K cl H a d ∧ (∀ c ∈ us, c ∈ lts d) ∧ us.length ≤ 400 ∧ ∀ H', Ex H H' → Q .non H'
theorem ok_check_calling  (T : Txt K mg cl) (F : FnP K "check_calling" "check_calling" s_check_calling [] f fd)  : FnOk P w K mg base CX0 1 f fd ["method", "calling"] ((sp_check_calling K cl)) := by
  refine F.ok sc_check_calling (fun vs H Q E h => ?_) (fun cdv A outer s H vs Q E hr h => ?_)
  · unfold sp_check_calling at h; (repeat obtain ⟨_, h⟩ := h); subst_vars; rfl
  have hu := hr.units
  refine ⟨_, PSs.nox (pss_cons (ps_if (PW.pt (pw_or (pt_not (pt_val (pe_callB call_isi (by rfl) T.b_isinstance (by decide +kernel) (pa_cons (pv 1) (pa_cons (pe_bltn (v := .ty "str") (u := .type "str") (by rfl) T.b_str (by decide +kernel) rfl) pa_nil))))) (pw_or1 (pt_cmpR op_gt (pe_callB (call_lenA (P := P) (w := w) (K := K)) (by rfl) T.b_len (by decide +kernel) (pa_cons (pv 1) pa_nil)) pe_int (nomark _))))) pss_never pss_nil)
      (pss_one (ps_for PassesOwn.never rfl (pi_enumS (by rfl) T.b_enumerate (pa_cons (pv 1) pa_nil)) (pg_tup rfl (pgs_cons (pg_name (i := 2) sc_check_calling.nd rfl (Or.inl rfl)) (pgs_cons (pg_name (i := 3) sc_check_calling.nd rfl (Or.inl rfl)) pgs_nil))) (pss_one (ps_if (pt_cmpR (op_notInA (P := P) (w := w) (K := K) hu) (pv 3) (pe_fld (pv 0) rfl) (by rfl)) pss_never pss_nil))))), ?_⟩
  obtain ⟨a, d, us, rfl, hm, hus, hl, q⟩ := h
  refine rd_isi rfl (.base (.str _)) (kit2 (by decide +kernel : kitB "str" "str" = some true)) (iF ⟨_, rfl, len_s (by rw [tx_length, sizeLine_eq]; omega) ⟨_, _, rfl, rfl, _, rfl, iN (by rw [tx_length]; simp; omega) ?_⟩⟩)
  refine ⟨_, rfl, tx us, rfl, ?_⟩
  refine for_it (walk_enumS (z := tx us)) (fun i σ H2 => ∃ t1 t2, σ = [some (.ref a), some (.str (tx us)), t1, t2] ∧ Ex H H2) ⟨none, none, rfl, Ex.refl _⟩ (fun _ _ _ _ _ => trivial) ?_ ?_
  · rintro i y σ H2 H3 hi ⟨t1, t2, rfl, e2⟩ ⟨T0, c, rfl, hT0, hc, rfl⟩
    have hcm : c ∈ us := by
      have : us[i]? = some c := by simpa [tx] using hc
      exact List.mem_of_getElem? this
    have e3 : Ex H2 (upd H2 T0 (.tup [.int (i : Nat), .str ⟨#[c]⟩])) := Ex.new hT0
    have hm3 := hm.ext (e2.trans e3)
    obtain ⟨dx, fs, vp, vc, vo, ql, qm, qb, kl, kb, ll, lb, h1, h2, h3, h4, h5, h6, h7, h8, h9, h10, h11, h12, h13, ⟨km, lm, h14, h15, h16⟩, _⟩ := hm3.ex
    obtain ⟨v, hv, _⟩ := h15.get ((h16.mem_iff).mpr (hus c hcm))
    refine ⟨T0, _, rfl, st_of upd_same, rfl, _, _, rfl, _, _, rfl, rfl, ?_⟩
    refine ⟨_, rfl, _, rfl, a, cl.M, dx, fs, _, rfl, h1, T.c_M, T.n_M_moves, h13, ni_k (k := .inr (ch c)) (.inl h14) ⟨_, rfl, iN (by rw [hv]; rfl) ?_⟩⟩
    exact ⟨_, _, rfl, e2.trans e3⟩
  · rintro σ H2 ⟨t1, t2, rfl, e2⟩
    exact q _ e2
abbrev s_told_row : Stmt := top 35
abbrev N_told_row : List Str := ["thing", "stage", "kept"]
theorem sc_told_row : FnScope N_told_row ["thing", "stage"] (defScope s_told_row) := ⟨rfl, rfl, rfl, by decide +kernel, rfl, by decide +kernel, by decide +kernel⟩
def sp_told_row (K : PySem.W.Frag) : Sp := fun vs H Q _ => ∃ (x : V) (r : List Int) (n : Nat), vs = [x, .int n] ∧ Dt H x (dRow r) ∧ Pm n r ∧ n ≤ 8 ∧ ∀ H', Ex H H' → Q x H'
theorem ok_told_row  (T : Txt K mg cl) (F : FnP K "told_row" "told_row" s_told_row [] f fd) (G_flat : GDef P w K mg base "flat" 1 ["thing"] [] ((sp_flat K))) (G_is_sound_row : GDef P w K mg base "is_sound_row" 2 ["thing", "stage"] [] ((sp_is_sound_row K))) : FnOk P w K mg base CX0 3 f fd ["thing", "stage"] ((sp_told_row K)) := by
  refine F.ok sc_told_row (fun vs H Q E h => ?_) (fun cdv A outer s H vs Q E hr h => ?_)
  · unfold sp_told_row at h; (repeat obtain ⟨_, h⟩ := h); subst_vars; rfl
  have hu := hr.units
  refine ⟨_, PSs.nox (pss_cons (ps_set (i := 2) sc_told_row.nd rfl (Or.inl rfl) (pe_g G_flat hr (pa_cons (pv 0) pa_nil)))
      (pss_cons (ps_if (pt_not (pt_val (pe_g G_is_sound_row hr (pa_cons (pv 2) (pa_cons (pv 1) pa_nil))))) pss_never pss_nil)
      (pss_one (ps_ret (pv 2))))), ?_⟩
  obtain ⟨x, r, n, rfl, hx, hr, hn, q⟩ := h
  refine ⟨_, rfl, x, _, rfl, hx.dp, fun H1 e1 => ?_⟩
  refine ⟨_, rfl, _, rfl, x, r, n, rfl, (hx.ex e1).dp, hr, hn, fun H2 e2 => ⟨true, rfl, iF ⟨_, rfl, q _ (e1.trans e2)⟩⟩⟩
abbrev s_are_wants : Stmt := top 38
abbrev N_are_wants : List Str := ["thing", "stage", "last", "pair"]
theorem sc_are_wants : FnScope N_are_wants ["thing", "stage"] (defScope s_are_wants) := ⟨rfl, rfl, rfl, by decide +kernel, rfl, by decide +kernel, by decide +kernel⟩
def sp_are_wants (K : PySem.W.Frag) : Sp := fun vs H Q _ => ∃ (x : V) (b : Int) (j n : Nat), vs = [x, .int n] ∧ Dp K H x (.tuple [.tuple [.int b, dRow [(j : Int) + 1]]]) ∧ 1 ≤ b ∧ b ≤ n ∧ j < n ∧ ∀ H', Ex H H' → Q (.bl true) H'
theorem ok_are_wants  (T : Txt K mg cl) (F : FnP K "are_wants" "are_wants" s_are_wants [] f fd) (G_is_integer : GDef P w K mg base "is_integer" 1 ["thing", "low", "high"] [] (sp_is_integer)) (G_is_places : GDef P w K mg base "is_places" 3 ["thing", "stage"] [] ((sp_is_places K))) : FnOk P w K mg base CX0 4 f fd ["thing", "stage"] ((sp_are_wants K)) := by
  refine F.ok sc_are_wants (fun vs H Q E h => ?_) (fun cdv A outer s H vs Q E hr h => ?_)
  · unfold sp_are_wants at h; (repeat obtain ⟨_, h⟩ := h); subst_vars; rfl
  have hu := hr.units
  refine ⟨_, PSs.nox (pss_cons (ps_if (pt_not (pt_val (pe_callB call_isi (by rfl) T.b_isinstance (by decide +kernel) (pa_cons (pv 0) (pa_cons (pe_bltn (v := .ty "tuple") (u := .type "tuple") (by rfl) T.b_tuple (by decide +kernel) rfl) pa_nil))))) pss_never pss_nil)
      (pss_cons (ps_set (i := 2) sc_are_wants.nd rfl (Or.inl rfl) pe_int)
      (pss_cons (ps_for PassesOwn.never rfl (pi_tup (pv 0)) (pg_name (i := 3) sc_are_wants.nd rfl (Or.inl rfl)) (pss_cons (ps_if (PW.pt (pw_or (pt_not (pt_val (pe_callB call_isi (by rfl) T.b_isinstance (by decide +kernel) (pa_cons (pv 3) (pa_cons (pe_bltn (v := .ty "tuple") (u := .type "tuple") (by rfl) T.b_tuple (by decide +kernel) rfl) pa_nil))))) (pw_or1 (pt_cmpR (op_neA (K := K) hu) (pe_callB (call_lenA (P := P) (w := w) (K := K)) (by rfl) T.b_len (by decide +kernel) (pa_cons (pv 3) pa_nil)) pe_int (nomark _))))) pss_never pss_nil)
      (pss_cons (ps_if (PW.pt (pw_or (pt_not (pt_val (pe_g G_is_integer hr (pa_cons (pe_ix (ix_A (P := P) (w := w) (K := K) hu) (pv 3) pe_int (fun _ _ => rfl)) (pa_cons (pe_op (op_addA (K := K)) (pv 2) pe_int) (pa_cons (pv 1) pa_nil)))))) (pw_or1 (pt_not (pt_val (pe_g G_is_places hr (pa_cons (pe_ix (ix_A (P := P) (w := w) (K := K) hu) (pv 3) pe_int (fun _ _ => rfl)) (pa_cons (pv 1) pa_nil)))))))) pss_never pss_nil)
      (pss_one (ps_set (i := 2) sc_are_wants.nd rfl (Or.inl rfl) (pe_ix (ix_A (P := P) (w := w) (K := K) hu) (pv 3) pe_int (fun _ _ => rfl)))))))
      (pss_one (ps_ret pe_bl))))), ?_⟩
  obtain ⟨x, b, j, n, rfl, hx, hb1, hb2, hj, q⟩ := h
  obtain ⟨a, xs, rfl, ha, hxs⟩ := hx.tupI
  refine rd_isi rfl ha.ty (kit2 (by decide +kernel : kitB "tuple" "tuple" = some true)) (iF ?_)
  cases hxs with
  | cons h1 hxs =>
  cases hxs
  rename_i v1
  refine ⟨_, rfl, a, rfl, ⟨_, ha⟩, ?_⟩
  refine for_it (walk_tup (xs := [v1])) (fun i σ H2 => ∃ t l, σ = [some (.ref a), some (.int n), some l, t] ∧ (i = 0 → l = .int 0) ∧ Ex H H2) ⟨none, .int 0, rfl, fun _ => rfl, Ex.refl _⟩ (fun i σ H2 _ ⟨_, _, _, _, e⟩ => ex_t e ha) ?_ ?_
  · rintro i y σ H2 H3 hi ⟨t, l, rfl, hl, e2⟩ ⟨rfl, hy⟩
    obtain rfl : i = 0 := by simp at hi; omega
    obtain rfl := hl rfl
    obtain rfl : v1 = y := by simpa using hy
    have hv1 := h1.ex e2
    obtain ⟨a2, ys, rfl, ha2, hys⟩ := hv1.tupI
    refine rd_isi rfl ha2.ty (kit2 (by decide +kernel : kitB "tuple" "tuple" = some true)) (iF ?_)
    refine ⟨_, rfl, len_t hv1 (ne_i ⟨_, rfl, iN (by simp) ?_⟩)⟩
    refine ⟨_, rfl, ix_t (i := 0) (d := .int b) hv1 rfl fun v2 hv2 => ⟨_, rfl, add_i ⟨_, rfl, ?_⟩⟩⟩
    rw [hv2.intI]
    refine ⟨b, 0 + 1, n, rfl, true, by simp; omega, iF ?_⟩
    refine ⟨_, rfl, ix_t (i := 1) (d := dRow [(j : Int) + 1]) hv1 rfl fun v3 hv3 => ⟨_, rfl, v3, _, n, rfl, hv3, ⟨fun i hi => ?_, by simp⟩, by simp, true, rfl, iF ?_⟩⟩
    · rw [List.mem_singleton.mp hi]; omega
    refine ⟨_, rfl, ix_t (i := 0) (d := .int b) hv1 rfl fun v4 hv4 => ?_⟩
    exact ⟨_, _, rfl, fun h => by omega, e2⟩
  · rintro σ H2 ⟨t, l, rfl, _, e2⟩
    exact q _ e2
abbrev s_is_entry : Stmt := top 39
abbrev N_is_entry : List Str := ["thing", "method"]
theorem sc_is_entry : FnScope N_is_entry ["thing", "method"] (defScope s_is_entry) := ⟨rfl, rfl, rfl, by decide +kernel, rfl, by decide +kernel, by decide +kernel⟩
/-- what an entry is -/
structure EntOk (d : Wd) (b : Int) (e : Ent) : Prop where
  m : e.1 ≤ 29
  j : e.2.1 < d.st
  c : e.2.2.1 ∈ lts d
  a : e.2.2.2 ≤ 29
  b1 : 1 ≤ b
  b2 : b ≤ d.st
def sp_is_entry (K : PySem.W.Frag) (cl : Cls6) : Sp := fun vs H Q _ => ∃ (x : V) (a : Addr) (d : Wd) (b : Int) (e : Ent), vs = [x, .ref a] ∧ Dp K H x (dEnt b e) ∧ MethAt K cl H a d ∧ EntOk d b e ∧ ∀ H', Ex H H' → Q (.bl true) H'
theorem ok_is_entry  (T : Txt K mg cl) (F : FnP K "is_entry" "is_entry" s_is_entry [] f fd) (G_is_integer : GDef P w K mg base "is_integer" 1 ["thing", "low", "high"] [] (sp_is_integer)) (G_are_wants : GDef P w K mg base "are_wants" 4 ["thing", "stage"] [] ((sp_are_wants K))) : FnOk P w K mg base CX0 5 f fd ["thing", "method"] ((sp_is_entry K cl)) := by
  refine F.ok sc_is_entry (fun vs H Q E h => ?_) (fun cdv A outer s H vs Q E hr h => ?_)
  · unfold sp_is_entry at h; (repeat obtain ⟨_, h⟩ := h); subst_vars; rfl
  have hu := hr.units
  refine ⟨_, PSs.nox (pss_cons (ps_if (PW.pt (pw_or (pt_not (pt_val (pe_callB call_isi (by rfl) T.b_isinstance (by decide +kernel) (pa_cons (pv 0) (pa_cons (pe_bltn (v := .ty "tuple") (u := .type "tuple") (by rfl) T.b_tuple (by decide +kernel) rfl) pa_nil))))) (pw_or1 (pt_cmpR (op_neA (K := K) hu) (pe_callB (call_lenA (P := P) (w := w) (K := K)) (by rfl) T.b_len (by decide +kernel) (pa_cons (pv 0) pa_nil)) pe_int (nomark _))))) pss_never pss_nil)
      (pss_cons (ps_if (PW.pt (pw_or (pt_not (pt_val (pe_g G_is_integer hr (pa_cons (pe_ix (ix_A (P := P) (w := w) (K := K) hu) (pv 0) pe_int (fun _ _ => rfl)) (pa_cons pe_int (pa_cons pe_int pa_nil)))))) (pw_or1 (pt_not (pt_val (pe_g G_is_integer hr (pa_cons (pe_ix (ix_A (P := P) (w := w) (K := K) hu) (pv 0) pe_int (fun _ _ => rfl)) (pa_cons pe_int (pa_cons pe_int pa_nil))))))))) pss_never pss_nil)
      (pss_cons (ps_if (PW.pt (pw_or (pt_not (pt_val (pe_callB call_isi (by rfl) T.b_isinstance (by decide +kernel) (pa_cons (pe_ix (ix_A (P := P) (w := w) (K := K) hu) (pv 0) pe_int (fun _ _ => rfl)) (pa_cons (pe_bltn (v := .ty "str") (u := .type "str") (by rfl) T.b_str (by decide +kernel) rfl) pa_nil))))) (pw_or1 (pt_cmpR (op_notInA (P := P) (w := w) (K := K) hu) (pe_ix (ix_A (P := P) (w := w) (K := K) hu) (pv 0) pe_int (fun _ _ => rfl)) (pe_fld (pv 1) rfl) (by rfl))))) pss_never pss_nil)
      (pss_one (ps_ret (pe_g G_are_wants hr (pa_cons (pe_ix (ix_A (P := P) (w := w) (K := K) hu) (pv 0) pe_int (fun _ _ => rfl)) (pa_cons (pe_fld (pv 1) rfl) pa_nil)))))))), ?_⟩
  obtain ⟨x, a, d, b, e, rfl, hx, hm, ho, q⟩ := h
  obtain ⟨a1, xs, rfl, ha1, hxs⟩ := hx.tupI
  have hm1 := ho.m
  have ha2 := ho.a
  obtain ⟨dx, fs, vp, vc, vo, ql, qm, qb, kl, kb, ll, lb, h1, h2, h3, h4, h5, h6, h7, h8, h9, h10, h11, h12, h13, ⟨km, lm, h14, h15, h16⟩, _⟩ := hm.ex
  obtain ⟨v, hv, _⟩ := h15.get ((h16.mem_iff).mpr ho.c)
  refine rd_isi rfl ha1.ty (kit2 (by decide +kernel : kitB "tuple" "tuple" = some true)) (iF ?_)
  refine ⟨_, rfl, len_t hx (ne_i ⟨_, rfl, iN (by simp) ?_⟩)⟩
  refine ⟨_, rfl, ix_t (i := 0) (d := .int e.1) hx rfl fun v0 hv0 => ?_⟩
  rw [hv0.intI]
  refine ⟨_, 0, 29, rfl, true, by simp; omega, iF ?_⟩
  refine ⟨_, rfl, ix_t (i := 3) (d := .int e.2.2.2) hx rfl fun v3 hv3 => ?_⟩
  rw [hv3.intI]
  refine ⟨_, 0, 29, rfl, true, by simp; omega, iF ?_⟩
  refine ⟨_, rfl, ix_t (i := 2) (d := .str (ch e.2.2.1)) hx rfl fun v2 hv2 => ?_⟩
  rw [hv2.strI]
  refine ⟨_, _, _, _, true, rfl, .ty _, .base (.str _), kit2 (by decide +kernel : kitB "str" "str" = some true), _, rfl, iF ?_⟩
  refine ⟨_, rfl, ix_t (i := 2) (d := .str (ch e.2.2.1)) hx rfl fun v2 hv2 => ?_⟩
  rw [hv2.strI]
  refine ⟨_, rfl, a, cl.M, dx, fs, _, rfl, h1, T.c_M, T.n_M_moves, h13, ni_k (k := .inr (ch e.2.2.1)) (.inl h14) ⟨_, rfl, iN (by rw [hv]; rfl) ?_⟩⟩
  refine ⟨_, rfl, ix_t (i := 1) (d := .tuple [.tuple [.int b, dRow [(e.2.1 : Int) + 1]]]) hx rfl fun v1 hv1 => ?_⟩
  exact ⟨_, rfl, a, cl.M, dx, fs, _, rfl, h1, T.c_M, T.n_M_stage, h2, v1, b, e.2.1, d.st, rfl, hv1, ho.b1, ho.b2, ho.j, q⟩
abbrev s_check_entries : Stmt := top 40
abbrev N_check_entries : List Str := ["method", "entries", "number", "entry"]
theorem sc_check_entries : FnScope N_check_entries ["method", "entries"] (defScope s_check_entries) := ⟨rfl, rfl, rfl, by decide +kernel, rfl, by decide +kernel, by decide +kernel⟩
def sp_check_entries (K : PySem.W.Frag) (cl : Cls6) : Sp := fun vs H Q _ => ∃ (x : V) (a : Addr) (d : Wd) (b : Int) (l : List Ent), vs = [.ref a, x] ∧ Dp K H x (dEnts b l) ∧ MethAt K cl H a d ∧ (∀ e ∈ l, EntOk d b e) ∧ l.length ≤ 60 ∧ ∀ H', Ex H H' → Q .non H'
theorem ok_check_entries  (T : Txt K mg cl) (F : FnP K "check_entries" "check_entries" s_check_entries [] f fd) (G_is_entry : GDef P w K mg base "is_entry" 5 ["thing", "method"] [] ((sp_is_entry K cl))) : FnOk P w K mg base CX0 6 f fd ["method", "entries"] ((sp_check_entries K cl)) := by
  refine F.ok sc_check_entries (fun vs H Q E h => ?_) (fun cdv A outer s H vs Q E hr h => ?_)
  · unfold sp_check_entries at h; (repeat obtain ⟨_, h⟩ := h); subst_vars; rfl
  have hu := hr.units
  refine ⟨_, PSs.nox (pss_cons (ps_if (pt_not (pt_val (pe_callB call_isi (by rfl) T.b_isinstance (by decide +kernel) (pa_cons (pv 1) (pa_cons (pe_bltn (v := .ty "tuple") (u := .type "tuple") (by rfl) T.b_tuple (by decide +kernel) rfl) pa_nil))))) pss_never pss_nil)
      (pss_cons (ps_for PassesOwn.never rfl (pi_enumT (by rfl) T.b_enumerate (pa_cons (pv 1) pa_nil)) (pg_tup rfl (pgs_cons (pg_name (i := 2) sc_check_entries.nd rfl (Or.inl rfl)) (pgs_cons (pg_name (i := 3) sc_check_entries.nd rfl (Or.inl rfl)) pgs_nil))) (pss_one (ps_if (pt_not (pt_val (pe_g G_is_entry hr (pa_cons (pv 3) (pa_cons (pv 0) pa_nil))))) pss_never pss_nil)))
      (pss_one (ps_if (pt_cmpR op_gt (pe_callB (call_lenA (P := P) (w := w) (K := K)) (by rfl) T.b_len (by decide +kernel) (pa_cons (pv 1) pa_nil)) (pe_gci T.c_MOST_ENTRIES) (nomark _)) pss_never pss_nil)))), ?_⟩
  obtain ⟨x, a, d, b, l, rfl, hx, hm, ho, hl, q⟩ := h
  obtain ⟨a1, xs, rfl, ha1, hxs⟩ := hx.tupI
  refine rd_isi rfl ha1.ty (kit2 (by decide +kernel : kitB "tuple" "tuple" = some true)) (iF ?_)
  refine ⟨_, rfl, a1, xs, rfl, ha1, ?_⟩
  refine for_it (walk_enumT (xs := xs)) (fun i σ H2 => ∃ t1 t2, σ = [some (.ref a), some (.ref a1), t1, t2] ∧ Ex H H2) ⟨none, none, rfl, Ex.refl _⟩ (fun i σ H2 _ ⟨_, _, _, e⟩ => ex_t e ha1) ?_ ?_
  · rintro i y σ H2 H3 hi ⟨t1, t2, rfl, e2⟩ ⟨T0, u1, u2, rfl, hT0, rfl, hu1, hu2⟩
    cases hu1
    have e3 : Ex H2 (upd H2 T0 (.tup [.int (i : Nat), u2])) := Ex.new hT0
    obtain ⟨dd, hd, hyd⟩ := (DpAll.ex (e2.trans e3) _ _ hxs).get hu2
    obtain ⟨e, he, rfl⟩ := mapD_get hd
    refine ⟨T0, _, rfl, st_of upd_same, rfl, _, _, rfl, _, _, rfl, rfl, ?_⟩
    exact ⟨_, rfl, _, rfl, u2, a, d, b, e, rfl, hyd, hm.ext (e2.trans e3), ho e (List.mem_of_getElem? he), fun H4 e4 => ⟨true, rfl, iF ⟨_, _, rfl, (e2.trans e3).trans e4⟩⟩⟩
  · rintro σ H2 ⟨t1, t2, rfl, e2⟩
    exact ⟨_, rfl, len_t (hx.ex e2) ⟨_, _, rfl, rfl, _, rfl, iN (by simp; omega) (q _ e2)⟩⟩
abbrev s_is_standing : Stmt := top 41
abbrev N_is_standing : List Str := ["thing", "stage"]
theorem sc_is_standing : FnScope N_is_standing ["thing", "stage"] (defScope s_is_standing) := ⟨rfl, rfl, rfl, by decide +kernel, rfl, by decide +kernel, by decide +kernel⟩
def sp_is_standing (K : PySem.W.Frag) : Sp := fun vs H Q _ => ∃ (x : V) (s : Std) (n : Nat), vs = [x, .int n] ∧ Dp K H x (dStd s) ∧ -1 ≤ s.1 ∧ s.1 ≤ 29 ∧ Pm n s.2 ∧ n ≤ 8 ∧ ∀ H', Ex H H' → Q (.bl true) H'
theorem ok_is_standing  (T : Txt K mg cl) (F : FnP K "is_standing" "is_standing" s_is_standing [] f fd) (G_is_integer : GDef P w K mg base "is_integer" 1 ["thing", "low", "high"] [] (sp_is_integer)) (G_is_sound_row : GDef P w K mg base "is_sound_row" 2 ["thing", "stage"] [] ((sp_is_sound_row K))) : FnOk P w K mg base CX0 3 f fd ["thing", "stage"] ((sp_is_standing K)) := by
  refine F.ok sc_is_standing (fun vs H Q E h => ?_) (fun cdv A outer s H vs Q E hr h => ?_)
  · unfold sp_is_standing at h; (repeat obtain ⟨_, h⟩ := h); subst_vars; rfl
  have hu := hr.units
  refine ⟨_, PSs.nox (pss_cons (ps_if (PW.pt (pw_or (pt_not (pt_val (pe_callB call_isi (by rfl) T.b_isinstance (by decide +kernel) (pa_cons (pv 0) (pa_cons (pe_bltn (v := .ty "tuple") (u := .type "tuple") (by rfl) T.b_tuple (by decide +kernel) rfl) pa_nil))))) (pw_or1 (pt_cmpR (op_neA (K := K) hu) (pe_callB (call_lenA (P := P) (w := w) (K := K)) (by rfl) T.b_len (by decide +kernel) (pa_cons (pv 0) pa_nil)) pe_int (nomark _))))) pss_never pss_nil)
      (pss_one (ps_ret (pe_and (pe_g G_is_integer hr (pa_cons (pe_ix (ix_A (P := P) (w := w) (K := K) hu) (pv 0) pe_int (fun _ _ => rfl)) (pa_cons (pe_un un_neg pe_int) (pa_cons pe_int pa_nil)))) (pe_one (pe_g G_is_sound_row hr (pa_cons (pe_ix (ix_A (P := P) (w := w) (K := K) hu) (pv 0) pe_int (fun _ _ => rfl)) (pa_cons (pv 1) pa_nil)))))))), ?_⟩
  obtain ⟨x, s, n, rfl, hx, h1, h2, hp, hn, q⟩ := h
  obtain ⟨a1, xs, rfl, ha1, hxs⟩ := hx.tupI
  refine rd_isi rfl ha1.ty (kit2 (by decide +kernel : kitB "tuple" "tuple" = some true)) (iF ?_)
  refine ⟨_, rfl, len_t hx (ne_i ⟨_, rfl, iN (by simp) ?_⟩)⟩
  refine ⟨_, rfl, ix_t (i := 0) (d := .int s.1) hx rfl fun v0 hv0 => ?_⟩
  rw [hv0.intI]
  refine ⟨1, rfl, s.1, -1, 29, rfl, true, by simp; omega, iT ?_⟩
  refine ⟨_, rfl, ix_t (i := 1) (d := dRow s.2) hx rfl fun v1 hv1 => ?_⟩
  exact ⟨_, rfl, v1, s.2, n, rfl, hv1, hp, hn, q⟩
abbrev s_told_standing : Stmt := top 42
abbrev N_told_standing : List Str := ["thing", "stage", "kept"]
theorem sc_told_standing : FnScope N_told_standing ["thing", "stage"] (defScope s_told_standing) := ⟨rfl, rfl, rfl, by decide +kernel, rfl, by decide +kernel, by decide +kernel⟩
def sp_told_standing (K : PySem.W.Frag) : Sp := fun vs H Q _ => ∃ (x : V) (s : Std) (n : Nat), vs = [x, .int n] ∧ Dp K H x (dStd s) ∧ -1 ≤ s.1 ∧ s.1 ≤ 29 ∧ Pm n s.2 ∧ n ≤ 8 ∧ ∀ v H', Ex H H' → Dt H' v (dStd s) → Q v H'
theorem Dep.std (n : Nat) {s : Std} (h : s.2.length ≤ 1000) : Dep (n + 2) (dStd s) := ⟨by show 2 ≤ 1000; decide, fun d hd => by
  rcases List.mem_cons.mp hd with e | hd
  · subst e; trivial
  · rw [List.mem_singleton.mp hd]; exact .row n h⟩
theorem ok_told_standing  (T : Txt K mg cl) (F : FnP K "told_standing" "told_standing" s_told_standing [] f fd) (G_deep : GDef P w K mg base "deep" 9 ["thing", "level"] [.int 0] (sp_deep K 8)) (G_is_standing : GDef P w K mg base "is_standing" 3 ["thing", "stage"] [] ((sp_is_standing K))) : FnOk P w K mg base CX0 10 f fd ["thing", "stage"] ((sp_told_standing K)) := by
  refine F.ok sc_told_standing (fun vs H Q E h => ?_) (fun cdv A outer s H vs Q E hr h => ?_)
  · unfold sp_told_standing at h; (repeat obtain ⟨_, h⟩ := h); subst_vars; rfl
  have hu := hr.units
  refine ⟨_, PSs.nox (pss_cons (ps_set (i := 2) sc_told_standing.nd rfl (Or.inl rfl) (pe_g G_deep hr (pa_cons (pv 0) pa_nil)))
      (pss_cons (ps_if (pt_not (pt_val (pe_g G_is_standing hr (pa_cons (pv 2) (pa_cons (pv 1) pa_nil))))) pss_never pss_nil)
      (pss_one (ps_ret (pv 2))))), ?_⟩
  obtain ⟨x, s, n, rfl, hx, h1, h2, hp, hn, q⟩ := h
  refine ⟨_, rfl, x, dStd s, 0, rfl, hx, Dep.std 6 (by rw [hp.1]; omega), by omega, by omega, fun v H1 e1 hv => ?_⟩
  exact ⟨_, rfl, _, rfl, v, s, n, rfl, hv.dp, h1, h2, hp, hn, fun H2 e2 => ⟨true, rfl, iF ⟨_, rfl, q v H2 (e1.trans e2) (hv.ex e2)⟩⟩⟩
abbrev s_applies : Stmt := top 43
abbrev N_applies : List Str := ["entry", "row", "bell", "places"]
theorem sc_applies : FnScope N_applies ["entry", "row"] (defScope s_applies) := ⟨rfl, rfl, rfl, by decide +kernel, rfl, by decide +kernel, by decide +kernel⟩
def sp_applies (K : PySem.W.Frag) : Sp := fun vs H Q _ => ∃ (x y : V) (b : Int) (e : Ent) (r : List Int) (n : Nat), vs = [x, y] ∧ Dp K H x (dEnt b e) ∧ Dt H y (dRow r) ∧ Pm n r ∧ 1 ≤ b ∧ b ≤ n ∧ ∀ H', Ex H H' → Q (.bl (decide (plc b r = e.2.1))) H'
theorem ok_applies  (T : Txt K mg cl) (F : FnP K "applies" "applies" s_applies [] f fd)  : FnOk P w K mg base CX0 1 f fd ["entry", "row"] ((sp_applies K)) := by
  refine F.ok sc_applies (fun vs H Q E h => ?_) (fun cdv A outer s H vs Q E hr h => ?_)
  · unfold sp_applies at h; (repeat obtain ⟨_, h⟩ := h); subst_vars; rfl
  have hu := hr.units
  refine ⟨_, PSs.nox (pss_cons (ps_for PassesOwn.never rfl (pi_tup (pe_ix (ix_A (P := P) (w := w) (K := K) hu) (pv 0) pe_int (fun _ _ => rfl))) (pg_tup rfl (pgs_cons (pg_name (i := 2) sc_applies.nd rfl (Or.inl rfl)) (pgs_cons (pg_name (i := 3) sc_applies.nd rfl (Or.inl rfl)) pgs_nil))) (pss_one (ps_if (pt_cmpR (op_notInA (P := P) (w := w) (K := K) hu) (pe_op (op_addA (K := K)) (pe_bn (P := P) (w := w) (K := K) PySem.F.plainAttrs_tuple PySem.F.slot_tuple_index PySem.F.type_tuple_index mt_tup_indexI (pv 1) (pa_cons (pv 2) pa_nil)) pe_int) (pv 3) (by rfl)) (pss_one (ps_ret pe_bl)) pss_nil)))
      (pss_one (ps_ret pe_bl))), ?_⟩
  obtain ⟨x, y, b, e, r, n, rfl, hx, hy, hp, hb1, hb2, q⟩ := h
  obtain ⟨aR, oR, rfl, hR1, hR2⟩ := hy.row
  obtain ⟨hpl, hpn⟩ := plc_get hp hb1 hb2
  refine ⟨_, rfl, ix_t (i := 1) (d := .tuple [.tuple [.int b, dRow [(e.2.1 : Int) + 1]]]) hx rfl fun v1 hv1 => ?_⟩
  obtain ⟨a1, xs, rfl, ha1, hxs⟩ := hv1.tupI
  cases hxs with
  | cons h1 hxs =>
  cases hxs
  rename_i w1
  refine ⟨a1, rfl, ⟨_, ha1⟩, ?_⟩
  refine for_it (walk_tup (xs := [w1])) (fun i σ H2 => ∃ t1 t2, σ = [some x, some (.ref aR), t1, t2] ∧ (i = 1 → plc b r = e.2.1) ∧ Ex H H2) ⟨none, none, rfl, fun h => by omega, Ex.refl _⟩ (fun i σ H2 _ ⟨_, _, _, _, e⟩ => ex_t e ha1) ?_ ?_
  · rintro i z σ H2 H3 hi ⟨t1, t2, rfl, _, e2⟩ ⟨rfl, hz⟩
    obtain rfl : i = 0 := by simp at hi; omega
    obtain rfl : w1 = z := by simpa using hz
    obtain ⟨a2, ys, rfl, ha2, hys⟩ := (h1.ex e2).tupI
    cases hys with
    | cons g1 hys => cases hys with
    | cons g2 hys =>
    cases hys
    obtain rfl := g1.intI
    rename_i w2
    refine ⟨a2, _, rfl, ha2, rfl, _, _, rfl, _, _, rfl, rfl, ?_⟩
    have hR3 := e2 _ _ hR1
    refine ⟨_, rfl, ty_t hR3 hR2, _, rfl, aR, r, b, plc b r, rfl, rfl, .inl (.inr ⟨oR, hR3⟩), hpl, nodup_first hp.2.2 hpl, add_i ⟨_, rfl, ni_r g2 ⟨_, rfl, iB (b := !decide (plc b r = e.2.1)) ?_ (fun e3 => ?_) (fun e3 => ?_)⟩⟩⟩
    · rw [Bool.eq_iff_iff]; simp; omega
    · have : plc b r ≠ e.2.1 := by simpa using e3
      have q2 := q H3 e2
      rw [decide_eq_false this] at q2
      exact q2
    · exact ⟨_, _, rfl, fun _ => by simpa using e3, e2⟩
  · rintro σ H2 ⟨t1, t2, rfl, hj, e2⟩
    have q2 := q H2 e2
    rw [decide_eq_true (hj rfl)] at q2
    exact q2
end
end L2
set_option Elab.async false
set_option linter.all false
set_option maxRecDepth 100000
set_option maxHeartbeats 4000000
namespace L2
open PySem PySem.Spec PyProof.Rows Evl
/-- a dict comprehension over a walk: Pv by the turn and the heap (the new dict at D within) -/
theorem dc_it {J : It} {n : Nat} {G : Hp → Prop} {Y : Nat → Hp → V → Hp → Prop} (w : Walk J n G Y) {g : TG} {tt : TT} {tk tv : TE} {vs : List Nat} {σ : L2.St} {H1 : Hp} {D : Addr} {Qd : Hp → Prop} (Pv : Nat → Hp → Prop) (h0 : Pv 0 (upd H1 D (.dK []))) (hG : ∀ i H, i ≤ n → Pv i H → G H)
    (hs : ∀ i x H H', i < n → Pv i H → Y i H x H' → g x (wipe σ vs) H' fun σ2 H2 => wipe σ2 vs = wipe σ vs ∧ tt σ2 H2 fun b H3 =>
      if b = true then tk σ2 H3 fun y H4 => tv σ2 H4 fun z H5 => ∃ kvs k, y = kV k ∧ H5 D = some (.dK kvs) ∧ kvs.length < sizeLine ∧ Pv (i + 1) (upd H5 D (.dK (putK kvs k z))) else Pv (i + 1) H3) (hd : ∀ H, Pv n H → Qd H) :
    ∃ W : Nat → Nat → Hp → Prop, (∃ m, W 0 m (upd H1 D (.dK []))) ∧ ∀ i m H, W i m H →
      (J.stop i H ∧ Qd H) ∨ (J.go i H ∧ ∃ Nx : Hp → Prop, (∀ H', Nx H' → ∃ m', m' < m ∧ W (i + 1) m' H') ∧ ∀ x H', J.yld i H x H' → g x (wipe σ vs) H' fun σ2 H2 => wipe σ2 vs = wipe σ vs ∧ tt σ2 H2 fun b H3 =>
        if b = true then tk σ2 H3 fun y H4 => tv σ2 H4 fun z H5 => ∃ kvs k, y = kV k ∧ H5 D = some (.dK kvs) ∧ kvs.length < sizeLine ∧ Nx (upd H5 D (.dK (putK kvs k z))) else Nx H3) := by
  refine ⟨fun i m H => m = n - i ∧ i ≤ n ∧ Pv i H, ⟨n, by simp, Nat.zero_le _, h0⟩, ?_⟩
  rintro i m H ⟨rfl, hi, p⟩
  have q := hG i H hi p
  by_cases hlt : i < n
  · refine .inr ⟨w.goes i H hlt q, Pv (i + 1), fun H' p' => ⟨n - (i + 1), by omega, rfl, hlt, p'⟩, fun x H' y => hs i x H H' hlt p (w.yields i H x H' hlt q y)⟩
  · have e : i = n := by omega
    subst e
    exact .inl ⟨w.stops H q, hd H p⟩
/-- the dict of a book's entries by memory -/
def ByS (H : Hp) (b : Int) (tb : List (List (Nat × Nat))) (n many : Nat) (kvs : List (Key × V)) : Prop :=
  (∀ m : Nat, m < many → ∃ r, valV kvs (.inl (m : Int)) = some (.ref r) ∧ DL H r ((entM tb n m).map (dEnt b))) ∧ valV kvs (.inl (-1)) = none
theorem ByS.ex {H H' : Hp} {b : Int} {tb : List (List (Nat × Nat))} {n many : Nat} {kvs : List (Key × V)} (h : ByS H b tb n many kvs) (e : Ex H H') : ByS H' b tb n many kvs :=
  ⟨fun m hm => by obtain ⟨r, h1, h2⟩ := h.1 m hm; exact ⟨r, h1, h2.ex e⟩, h.2⟩
/-- a Book of the conductor (b, tb) stands at a, its method at M -/
structure BookAt (K : PySem.W.Frag) (cl : Cls6) (H : Hp) (a M : Addr) (d : Wd) (b : Int) (tb : List (List (Nat × Nat))) (many : Nat) : Prop where
  ex : ∃ (dx : Addr) (fs : List (Str × V)) (ve : V) (q : Addr) (kvs : List (Key × V)), H a = some (.ins cl.B dx fs) ∧ lk fs "method" = some (.ref M) ∧ MethAt K cl H M d ∧ lk fs "entries" = some ve ∧ Dt H ve (dEnts b (ents tb d.st many)) ∧
    lk fs "by_state" = some (.ref q) ∧ H q = some (.dK kvs) ∧ ByS H b tb d.st many kvs ∧ lk fs "ways_from" = none ∧ lk fs "followers" = none ∧ lk fs "is_stuck" = none ∧ lk fs "fan" = none ∧ lk fs "bears" = none
theorem BookAt.ext {K : PySem.W.Frag} {cl : Cls6} {H H' : Hp} {a M : Addr} {d : Wd} {b : Int} {tb : List (List (Nat × Nat))} {many : Nat} (h : BookAt K cl H a M d b tb many) (e : Ex H H') : BookAt K cl H' a M d b tb many := by
  obtain ⟨dx, fs, ve, q, kvs, h1, h2, h3, h4, h5, h6, h7, h8, h9⟩ := h.ex
  exact ⟨dx, fs, ve, q, kvs, e _ _ h1, h2, h3.ext e, h4, h5.ex e, h6, e _ _ h7, h8.ex e, h9⟩
section
variable {P : Program} {w : World} {K : PySem.W.Frag} {mg : Str → Option Value} {base : Heap} {f : Addr} {fd : FuncData} {cl : Cls6}
abbrev s_Book_init : Stmt := inClass (top 44) 1
abbrev N_Book_init : List Str := ["self", "method", "entries", "kept", "other", "entry"]
theorem sc_Book_init : FnScope N_Book_init ["self", "method", "entries"] (defScope s_Book_init) := ⟨rfl, rfl, rfl, by decide +kernel, rfl, by decide +kernel, by decide +kernel⟩
def sp_Book_init (K : PySem.W.Frag) (cl : Cls6) : Sp := fun vs H Q _ => ∃ (p dx M : Addr) (x : V) (d : Wd) (b : Int) (tb : List (List (Nat × Nat))) (many : Nat), vs = [.ref p, .ref M, x] ∧ H p = some (.ins cl.B dx []) ∧ MethAt K cl H M d ∧ p ≠ M ∧ Dt H x (dEnts b (ents tb d.st many)) ∧ (∀ e ∈ ents tb d.st many, EntOk d b e) ∧ many ≤ 4 ∧ d.st ≤ 8 ∧ 1 ≤ d.st ∧
  ∀ H', ExB p H H' → (MethAt K cl H' M d → BookAt K cl H' p M d b tb many) → Q .non H'
theorem Dep.ents {n : Nat} {b : Int} {l : List Ent} (h : l.length ≤ 1000) : Dep (n + 5) (dEnts b l) := by
  refine ⟨by rw [List.length_map]; exact h, fun d hd => ?_⟩
  obtain ⟨e, _, rfl⟩ := List.mem_map.mp hd
  refine ⟨by show 4 ≤ 1000; decide, fun d hd => ?_⟩
  rcases List.mem_cons.mp hd with e1 | hd
  · subst e1; trivial
  · rcases List.mem_cons.mp hd with e1 | hd
    · subst e1
      refine ⟨by show 1 ≤ 1000; decide, fun d hd => ?_⟩
      rw [List.mem_singleton.mp hd]
      refine ⟨by show 2 ≤ 1000; decide, fun d hd => ?_⟩
      rcases List.mem_cons.mp hd with e1 | hd
      · subst e1; trivial
      · rw [List.mem_singleton.mp hd]; exact .row n (by show 1 ≤ 1000; decide)
    · rcases List.mem_cons.mp hd with e1 | hd
      · subst e1; trivial
      · rw [List.mem_singleton.mp hd]; trivial
theorem ok_Book_init  {dv0 : List V} (T : Txt K mg cl) (F : FnP K "__init__" "Book.__init__" s_Book_init dv0 f fd) (G_deep : GDef P w K mg base "deep" 9 ["thing", "level"] [.int 0] (sp_deep K 8)) (G_check_entries : GDef P w K mg base "check_entries" 6 ["method", "entries"] [] ((sp_check_entries K cl))) : FnOk P w K mg base CX0 10 f fd ["self", "method", "entries"] ((sp_Book_init K cl)) := by
  refine F.ok sc_Book_init (fun vs H Q E h => ?_) (fun cdv A outer s H vs Q E hr h => ?_)
  · unfold sp_Book_init at h; (repeat obtain ⟨_, h⟩ := h); subst_vars; rfl
  have hu := hr.units
  refine ⟨_, PSs.nox (pss_cons (ps_set (i := 3) sc_Book_init.nd rfl (Or.inr rfl) (pe_g G_deep hr (pa_cons (pv 2) pa_nil)))
      (pss_cons (ps_expr (pe_g G_check_entries hr (pa_cons (pv 1) (pa_cons (pv 3) pa_nil))))
      (pss_cons (ps_fld (pv 0) (pv 1) rfl)
      (pss_cons (ps_fld (pv 0) (pv 3) rfl)
      (pss_one (ps_fld (pv 0) (pe_dc (own := [("entry", 5)]) rfl sc_Book_init.nd (pi_tup (pv 3)) (blkOk_by (N := N_Book_init) (sc := defScope s_Book_init) (by decide +kernel)) (fun _ _ _ _ _ => (pg_name (i := 5) sc_Book_init.nd rfl (Or.inr rfl))) (fun _ _ _ _ _ => pts_nil) (fun _ _ _ _ _ => (pe_ix (ix_A (P := P) (w := w) (K := K) hu) (pv 5) pe_int (fun _ _ => rfl))) (fun _ _ _ _ _ => (pe_lc (own := [("other", 4)]) rfl sc_Book_init.nd (pi_tupK (k0 := K) (pv 3)) (blkOk_by (N := N_Book_init) (by rfl)) (fun _ _ _ _ _ => (pg_name (i := 4) sc_Book_init.nd rfl (Or.inl rfl))) (fun _ _ _ _ _ => (pts_one (pt_cmpR (op_eqA (K := K) hu) (pe_ix (ix_A (P := P) (w := w) (K := K) hu) (pv 4) pe_int (fun _ _ => rfl)) (pe_ix (ix_A (P := P) (w := w) (K := K) hu) (pv 5) pe_int (fun _ _ => rfl)) (nomark _)))) (fun _ _ _ _ _ => (pv 4))))) rfl)))))), ?_⟩
  obtain ⟨p, dx, M, x, d, b, tb, many, rfl, hp, hM, hpM, hx, he, hm4, h8, h1s, q⟩ := h
  have hlen : (ents tb d.st many).length ≤ 32 := by
    rw [ents_length]
    calc many * d.st ≤ 4 * 8 := Nat.mul_le_mul hm4 h8
      _ = 32 := rfl
  refine ⟨_, rfl, x, _, 0, rfl, hx.dp, Dep.ents (n := 3) (by omega), by omega, by omega, fun vk H1 e1 hvk => ?_⟩
  refine ⟨_, rfl, _, rfl, vk, M, d, b, _, rfl, hvk.dp, hM.ext e1, he, by omega, fun H2 e2 => ?_⟩
  have e12 := e1.trans e2
  have hvk2 := hvk.ex e2
  have b2 : ExB p H H2 := (ExB.refl p H).ext e12
  refine ⟨_, rfl, _, rfl, p, cl.B, dx, _, rfl, e12 _ _ hp, T.c_B, T.n_B_method, by show 0 < 1000; decide, ?_⟩
  refine ⟨_, rfl, _, rfl, p, cl.B, dx, _, rfl, upd_same, T.c_B, T.n_B_entries, by show 1 < 1000; decide, ?_⟩
  rw [upd_upd]
  generalize eF2 : putF "entries" vk (putF "method" (V.ref M) []) = F2
  have lF2 : F2.length ≤ 2 := by rw [← eF2]; have a1 := len_putF "entries" vk (putF "method" (V.ref M) []); have a2 := len_putF "method" (V.ref M) []; simp at a2; omega
  have t2 : Tp H2 (upd H2 p (.ins cl.B dx F2)) := Tp.upd (by rw [e12 _ _ hp]; trivial)
  have b3 : ExB p H (upd H2 p (.ins cl.B dx F2)) := b2.fld
  have hp3 : upd H2 p (.ins cl.B dx F2) p = some (.ins cl.B dx F2) := upd_same
  have hvk3 := hvk2.tp t2
  generalize eH3 : upd H2 p (.ins cl.B dx F2) = H3 at t2 b3 hp3 hvk3 ⊢
  obtain ⟨aE, oE, xE, rfl, hE1, hE2, hE3⟩ := hvk3.tupI
  have hxl : xE.length = (ents tb d.st many).length := by have := hE3.len; rw [List.length_map] at this; exact this
  refine ⟨_, rfl, aE, rfl, ⟨xE, .inl (.inr ⟨oE, hE1⟩)⟩, fun D nD => ?_⟩
  refine dc_it (walk_tup (xs := xE)) (fun i H4 => Ex H3 H4 ∧ ∃ kvs : List (Key × V), H4 D = some (.dK kvs) ∧ kvs.length ≤ i ∧ (∀ k v, valV kvs (.inl k) = some v → 0 ≤ k) ∧ (∀ (j : Nat) (e : Ent), j < i → (ents tb d.st many)[j]? = some e → ∃ r, valV kvs (.inl (e.1 : Int)) = some (.ref r) ∧ DL H4 r (((ents tb d.st many).filter fun (o : Ent) => decide (o.1 = e.1)).map (dEnt b))))
    ⟨Ex.new nD, [], upd_same, Nat.le_refl _, (fun k v h => by cases h), (fun j e h => by omega)⟩ (fun i H4 _ h => .inl (.inr ⟨oE, h.1 _ _ hE1⟩)) ?_ ?_
  · rintro i y H4 H5 hi ⟨e4, kvs, hD, hkl, hkp, hkd⟩ ⟨rfl, hy⟩
    obtain ⟨dd, hd, hyd⟩ := (hE3.ex e4).get hy
    obtain ⟨e, hei, rfl⟩ := mapD_get hd
    refine ⟨rfl, yT ⟨_, rfl, ix_d hyd (i := 0) (d := .int e.1) rfl fun v0 hv0 => ?_⟩⟩
    have hv0' := hv0.intI
    subst hv0'
    refine ⟨_, rfl, aE, rfl, ⟨xE, .inl (.inr ⟨oE, e4 _ _ hE1⟩)⟩, fun R nR => ?_⟩
    refine lc_gen (walk_tup (xs := xE)) (fun j acc H => DtAll H acc ((((ents tb d.st many).take j).filter fun (o : Ent) => decide (o.1 = e.1)).map (dEnt b))) (fun _ _ _ _ t h => h.tp t) nR (by rw [List.take_zero]; exact .nil) (fun H e5 => .inl (.inr ⟨oE, e5 _ _ (e4 _ _ hE1)⟩)) ?_ ?_
    · rintro j z acc H6 H7 hj l1 hR e6 hacc ⟨rfl, hz⟩
      obtain ⟨dz, hdz, hzd⟩ := ((hE3.ex e4).ex e6).get hz
      obtain ⟨o, hoj, rfl⟩ := mapD_get hdz
      refine ⟨rfl, ⟨_, rfl, ix_d hzd (i := 0) (d := .int o.1) rfl fun v1 hv1 => ⟨_, rfl, ix_d (hyd.ex e6) (i := 0) (d := .int e.1) rfl fun v2 hv2 => ?_⟩⟩⟩
      rw [hv1.intI, hv2.intI]
      refine eq_i ⟨_, rfl, iB (b := decide (o.1 = e.1)) (by rw [Bool.eq_iff_iff]; simp; omega) (fun e3 => ⟨_, rfl, ?_⟩) (fun e3 => ?_)⟩
      · refine LcN.mk (fun _ _ _ _ t h => h.tp t) nR hR e6 (Ex.refl _) l1 (by rw [sizeLine_eq]; omega) ?_
        rw [List.take_succ, hoj, List.filter_append, List.map_append]
        have : (List.filter (fun o : Ent => decide (o.1 = e.1)) (some o).toList) = [o] := by simp only [Option.toList, List.filter_cons, e3]; rfl
        rw [this]
        exact hacc.snoc hzd
      · refine LcP.mk hR e6 (Ex.refl _) l1 ?_
        rw [List.take_succ, hoj, List.filter_append, List.map_append]
        have : (List.filter (fun o : Ent => decide (o.1 = e.1)) (some o).toList) = [] := by simp only [Option.toList, List.filter_cons, e3]; rfl
        rw [this, List.map_nil, List.append_nil]
        exact hacc
    · intro ys H6 e6 hR _ hys
      rw [hxl, List.take_length] at hys
      have hD6 := e6 _ _ hD
      have nDR : R ≠ D := fun z => by rw [z, hD] at nR; cases nR
      have tpD : Tp H6 (upd H6 D (.dK (putK kvs (.inl (e.1 : Int)) (.ref R)))) := Tp.upd (by rw [hD6]; trivial)
      refine ⟨kvs, .inl (e.1 : Int), rfl, hD6, by rw [sizeLine_eq]; omega, (e4.trans e6).mut nD, _, upd_same, by have := length_putK kvs (.inl (e.1 : Int)) (.ref R); omega, ?_, ?_⟩
      · intro k v hk
        rw [valV_put] at hk
        by_cases ek : (Sum.inl k : Key) = .inl (e.1 : Int)
        · have := Sum.inl.inj ek; omega
        · rw [if_neg ek] at hk; exact hkp k v hk
      · intro j e' hj he'
        rw [valV_put]
        by_cases ek : e'.1 = e.1
        · rw [if_pos (by rw [ek]), ek]
          exact ⟨R, rfl, ys, by rw [upd_ne nDR]; exact hR, hys.tp tpD⟩
        · rw [if_neg (fun z => ek (by have := Sum.inl.inj z; omega))]
          have hji : j < i := by
            rcases Nat.lt_or_eq_of_le (Nat.le_of_lt_succ hj) with h | h
            · exact h
            · subst h; rw [hei] at he'; exact absurd (by rw [Option.some.inj he']) ek
          obtain ⟨r, hr, hrd⟩ := hkd j e' hji he'
          obtain ⟨vs, hv1, hv2⟩ := hrd.ex e6
          have nrD : r ≠ D := fun z => by rw [z, hD6] at hv1; cases hv1
          exact ⟨r, hr, vs, by rw [upd_ne nrD]; exact hv1, hv2.tp tpD⟩
  · rintro H4 ⟨e4, kvs, hD, hkl, hkp, hkd⟩
    refine ⟨_, rfl, p, cl.B, dx, _, rfl, e4 _ _ hp3, T.c_B, T.n_B_by_state, by omega, ?_⟩
    generalize eF3 : putF "by_state" (V.ref D) F2 = F3
    have neD : D ≠ p := fun z => by rw [z, hp3] at nD; cases nD
    have t5 : Tp H4 (upd H4 p (.ins cl.B dx F3)) := Tp.upd (by rw [e4 _ _ hp3]; trivial)
    refine q _ ((b3.ext e4).fld) fun hM5 => ⟨dx, F3, .ref aE, D, kvs, upd_same, ?_, hM5, ?_, (hvk3.ex e4).tp t5, ?_, by rw [upd_ne neD]; exact hD, ⟨fun m hm => ?_, ?_⟩, ?_⟩
    · subst eF3 eF2
      (show List.lookup _ _ = _; repeat (first | exact lkE | rw [lkN (by decide +kernel)]))
    · subst eF3 eF2
      (show List.lookup _ _ = _; repeat (first | exact lkE | rw [lkN (by decide +kernel)]))
    · subst eF3 eF2
      (show List.lookup _ _ = _; repeat (first | exact lkE | rw [lkN (by decide +kernel)]))
    · have hmem : entAt tb m 0 ∈ ents tb d.st many := mem_ents.mpr ⟨m, 0, hm, by omega, rfl⟩
      obtain ⟨j, hj⟩ := List.mem_iff_getElem?.mp hmem
      have hjl : j < xE.length := by rw [hxl]; exact (List.getElem?_eq_some_iff.mp hj).1
      obtain ⟨r, hr, hrd⟩ := hkd j _ hjl hj
      have e0 : (entAt tb m 0).1 = m := rfl
      rw [e0] at hr hrd
      rw [filter_ents, if_pos hm] at hrd
      obtain ⟨vs, hv1, hv2⟩ := hrd
      have nrp : r ≠ p := fun z => by rw [z, e4 _ _ hp3] at hv1; cases hv1
      exact ⟨r, hr, vs, by rw [upd_ne nrp]; exact hv1, hv2.tp t5⟩
    · cases h : valV kvs (.inl (-1)) with
      | none => rfl
      | some v => have := hkp _ _ h; omega
    · subst eF3 eF2
      refine ⟨?_, ?_, ?_, ?_, ?_⟩ <;> (show List.lookup _ _ = _; rw [lkN (by decide +kernel), lkN (by decide +kernel), lkN (by decide +kernel)]; rfl)
abbrev s_Book_beginning : Stmt := inClass (top 44) 2
abbrev N_Book_beginning : List Str := ["self"]
theorem sc_Book_beginning : FnScope N_Book_beginning ["self"] (defScope s_Book_beginning) := ⟨rfl, rfl, rfl, by decide +kernel, rfl, by decide +kernel, by decide +kernel⟩
def sp_Book_beginning (K : PySem.W.Frag) (cl : Cls6) : Sp := fun vs H Q _ => ∃ (a M : Addr) (d : Wd) (b : Int) (tb : List (List (Nat × Nat))) (many : Nat), vs = [.ref a] ∧ BookAt K cl H a M d b tb many ∧ ∀ v H', Ex H H' → Dt H' v (dStd (0, rgI d.st)) → Q v H'
/-- method.opening of a book's method -/
theorem BookAt.opening {H : Hp} {a M : Addr} {d : Wd} {b : Int} {tb : List (List (Nat × Nat))} {many : Nat} (T : Txt K mg cl) (h : BookAt K cl H a M d b tb many) : ∃ vo, Dt H vo (dRow (rgI d.st)) ∧ ∀ {ta : TE} {σ : L2.St} {H0 : Hp} {Q : VK}, ta σ H0 (fun x H1 => x = .ref a ∧ H1 = H ∧ Q vo H) → (∀ Q1 Q2 : VK, (∀ x H, Q1 x H → Q2 x H) → ta σ H0 Q1 → ta σ H0 Q2) → tFld K (tFld K ta "method") "opening" σ H0 Q := by
  obtain ⟨dx, fs, ve, q, kvs, h1, h2, h3, _⟩ := h.ex
  obtain ⟨dy, gs, vp, vc, vo, ql, qm, qb, kl, kb, ll, lb, g1, g2, g3, g4, g5, g6, g7, g8, _⟩ := h3.ex
  refine ⟨vo, g8, fun hta mono => mono _ _ (fun x H1 hq => ?_) hta⟩
  obtain ⟨rfl, rfl, hq⟩ := hq
  exact ⟨a, cl.B, dx, fs, _, rfl, h1, T.c_B, T.n_B_method, h2, M, cl.M, dy, gs, _, rfl, g1, T.c_M, T.n_M_opening, g7, hq⟩
theorem ok_Book_beginning  (T : Txt K mg cl) (F : FnP K "beginning" "Book.beginning" s_Book_beginning [] f fd)  : FnOk P w K mg base CX0 1 f fd ["self"] ((sp_Book_beginning K cl)) := by
  refine F.ok sc_Book_beginning (fun vs H Q E h => ?_) (fun cdv A outer s H vs Q E hr h => ?_)
  · unfold sp_Book_beginning at h; (repeat obtain ⟨_, h⟩ := h); subst_vars; rfl
  have hu := hr.units
  refine ⟨_, PSs.nox (pss_one (ps_ret (pe_tupN (pa_cons pe_int (pa_cons (pe_fld (pe_fld (pv 0) rfl) rfl) pa_nil))))), ?_⟩
  obtain ⟨a, M, d, b, tb, many, rfl, hB, q⟩ := h
  obtain ⟨dx, fs, ve, q0, kvs, h1, h2, h3, _⟩ := hB.ex
  obtain ⟨dy, gs, vp, vc, vo, ql, qm, qb, kl, kb, ll, lb, g1, g2, g3, g4, g5, g6, g7, g8, _⟩ := h3.ex
  refine ⟨_, rfl, a, cl.B, dx, fs, _, rfl, h1, T.c_B, T.n_B_method, h2, M, cl.M, dy, gs, _, rfl, g1, T.c_M, T.n_M_opening, g7, ?_⟩
  exact tupN_d (ds := [.int 0, dRow (rgI d.st)]) (.cons (.int _) (.cons g8 .nil)) (by show 2 ≤ 100; decide) fun v H1 e1 hv => q v H1 e1 hv
abbrev s_Book_len : Stmt := inClass (top 44) 9
abbrev N_Book_len : List Str := ["self"]
theorem sc_Book_len : FnScope N_Book_len ["self"] (defScope s_Book_len) := ⟨rfl, rfl, rfl, by decide +kernel, rfl, by decide +kernel, by decide +kernel⟩
def sp_Book_len (K : PySem.W.Frag) (cl : Cls6) : Sp := fun vs H Q _ => ∃ (a M : Addr) (d : Wd) (b : Int) (tb : List (List (Nat × Nat))) (many : Nat), vs = [.ref a] ∧ BookAt K cl H a M d b tb many ∧ Q (.int ((many * d.st : Nat) : Int)) H
theorem ok_Book_len  (T : Txt K mg cl) (F : FnP K "__len__" "Book.__len__" s_Book_len [] f fd)  : FnOk P w K mg base CX0 1 f fd ["self"] ((sp_Book_len K cl)) := by
  refine F.ok sc_Book_len (fun vs H Q E h => ?_) (fun cdv A outer s H vs Q E hr h => ?_)
  · unfold sp_Book_len at h; (repeat obtain ⟨_, h⟩ := h); subst_vars; rfl
  have hu := hr.units
  refine ⟨_, PSs.nox (pss_one (ps_ret (pe_callB (call_lenA (P := P) (w := w) (K := K)) (by rfl) T.b_len (by decide +kernel) (pa_cons (pe_fld (pv 0) rfl) pa_nil)))), ?_⟩
  obtain ⟨a, M, d, b, tb, many, rfl, hB, q⟩ := h
  obtain ⟨dx, fs, ve, q0, kvs, h1, h2, h3, h4, h5, _⟩ := hB.ex
  refine ⟨_, rfl, a, cl.B, dx, fs, _, rfl, h1, T.c_B, T.n_B_entries, h4, len_t (ds := (ents tb d.st many).map (dEnt b)) h5.dp ?_⟩
  rw [List.length_map, ents_length]
  exact q
abbrev s_Book_ways_from : Stmt := inClass (top 44) 3
abbrev N_Book_ways_from : List Str := ["self", "standing", "state", "row", "found", "entry", "goal"]
theorem sc_Book_ways_from : FnScope N_Book_ways_from ["self", "standing"] (defScope s_Book_ways_from) := ⟨rfl, rfl, rfl, by decide +kernel, rfl, by decide +kernel, by decide +kernel⟩
def sp_Book_ways_from (K : PySem.W.Frag) (cl : Cls6) : Sp := fun vs H Q _ => ∃ (a M : Addr) (x : V) (d : Wd) (b : Int) (tb : List (List (Nat × Nat))) (ls : List Nat) (many : Nat) (s : Std), vs = [.ref a, x] ∧ BookAt K cl H a M d b tb many ∧ Dt H x (dStd s) ∧ TbOk d.st ls many tb ∧ (∀ c ∈ ls, c ∈ lts d) ∧ d.st ≤ 8 ∧ 1 ≤ b ∧ b ≤ d.st ∧ SKk d many s ∧
  ∀ v H', Ex H H' → Dt H' v (.tuple ((wys d tb b s).map dWy)) → Q v H'
theorem nd_nil {κ : Type} [DecidableEq κ] {E : Emb κ} {H : Hp} {p : Addr} (h : H p = some (NdO P w p [])) (hs : (p == sysModules) = false) : ND E P w K H p [] := ⟨[], h, hs, Nat.zero_le _, List.nodup_nil, .nil⟩
theorem ok_Book_ways_from  (T : Txt K mg cl) (F : FnP K "ways_from" "Book.ways_from" s_Book_ways_from [] f fd) (G_applies : GDef P w K mg base "applies" 1 ["entry", "row"] [] ((sp_applies K))) (G_times : GDef P w K mg base "times" 1 ["row", "move"] [] ((sp_times K))) : FnOk P w K mg base CX0 2 f fd ["self", "standing"] ((sp_Book_ways_from K cl)) := by
  refine F.ok sc_Book_ways_from (fun vs H Q E h => ?_) (fun cdv A outer s H vs Q E hr h => ?_)
  · unfold sp_Book_ways_from at h; (repeat obtain ⟨_, h⟩ := h); subst_vars; rfl
  have hu := hr.units
  refine ⟨_, PSs.nox (pss_cons (ps_asg (pv 1) (pg_tup rfl (pgs_cons (pg_name (i := 2) sc_Book_ways_from.nd rfl (Or.inl rfl)) (pgs_cons (pg_name (i := 3) sc_Book_ways_from.nd rfl (Or.inl rfl)) pgs_nil))))
      (pss_cons (ps_set (i := 4) sc_Book_ways_from.nd rfl (Or.inl rfl) pe_dnewN)
      (pss_cons (ps_for PassesOwn.never rfl (pi_list (pe_bn (P := P) (w := w) (K := K) PySem.F.plainAttrs_dict PySem.F.slot_dict_get PySem.F.type_dict_get (mt_get2 (P := P) (w := w) (K := K) hu) (pe_fld (pv 0) rfl) (pa_cons (pv 2) (pa_cons (pe_lst pa_nil) pa_nil)))) (pg_name (i := 5) sc_Book_ways_from.nd rfl (Or.inl rfl)) (pss_one (ps_if (pt_val (pe_g G_applies hr (pa_cons (pv 5) (pa_cons (pv 3) pa_nil)))) (pss_cons (ps_set (i := 6) sc_Book_ways_from.nd rfl (Or.inl rfl) (pe_g G_times hr (pa_cons (pv 3) (pa_cons (pe_ix (ix_A (P := P) (w := w) (K := K) hu) (pe_fld (pe_fld (pv 0) rfl) rfl) (pe_ix (ix_A (P := P) (w := w) (K := K) hu) (pv 5) pe_int (fun _ _ => rfl)) (fun _ _ => rfl)) pa_nil))))
      (pss_one (ps_if (pt_cmpR (op_eqA (K := K) hu) (pv 6) (pe_fld (pe_fld (pv 0) rfl) rfl) (nomark _)) (pss_one (ps_asg pe_bl (pg_sub (pv 4) (pe_tupN (pa_cons (pe_ix (ix_A (P := P) (w := w) (K := K) hu) (pv 5) pe_int (fun _ _ => rfl)) (pa_cons (pe_tupN (pa_cons (pe_cv T.v_Book_HOME) (pa_cons (pv 6) pa_nil))) pa_nil))) (set_A (P := P) (w := w) (K := K) hu)))) (pss_one (ps_asg pe_bl (pg_sub (pv 4) (pe_tupN (pa_cons (pe_ix (ix_A (P := P) (w := w) (K := K) hu) (pv 5) pe_int (fun _ _ => rfl)) (pa_cons (pe_tupN (pa_cons (pe_ix (ix_A (P := P) (w := w) (K := K) hu) (pv 5) pe_int (fun _ _ => rfl)) (pa_cons (pv 6) pa_nil))) pa_nil))) (set_A (P := P) (w := w) (K := K) hu))))))) pss_nil)))
      (pss_one (ps_ret (pe_callTy (call_tupN (K := K)) (by rfl) T.b_tuple (by decide +kernel) (pa_cons (pe_callB cr_sort1 (by rfl) T.b_sorted (by decide +kernel) (pa_cons (pe_callTy (call_list_N rfl) (by rfl) T.b_list (by decide +kernel) (pa_cons (pv 4) pa_nil)) pa_nil)) pa_nil))))))), ?_⟩
  obtain ⟨a, M, x, d, b, tb, ls, many, s, rfl, hB, hx, hT, hls, h8, hb1, hb2, hs, q⟩ := h
  obtain ⟨dx, fs, ve, q0, kvs, h1, h2, h3, h4, h5, h6, h7, h9, _⟩ := hB.ex
  obtain ⟨aS, oS, xS, rfl, hS1, hS2, hS3⟩ := hx.tupI
  cases hS3 with
  | cons g1 hS3 => cases hS3 with
  | cons g2 hS3 =>
  cases hS3
  obtain rfl := g1.intI
  rename_i vr
  refine ⟨_, rfl, aS, _, rfl, .inl (.inr ⟨oS, hS1⟩), rfl, _, _, rfl, _, _, rfl, rfl, ?_⟩
  intro p hp hpm
  have e1 : Ex H (upd H p (NdO P w p [])) := Ex.new hp
  refine ⟨_, rfl, a, cl.B, dx, fs, _, rfl, e1 _ _ h1, T.c_B, T.n_B_by_state, h6, ty_k (.inl (e1 _ _ h7)), _, rfl, by show 0 ≤ sizeLine; decide, fun l hl => ?_⟩
  have e2 : Ex H (upd (upd H p (NdO P w p [])) l (.lst [])) := e1.trans (Ex.new hl)
  refine get_k (k := .inl s.1) (.inl (e2 _ _ h7)) ?_
  have nlp : p ≠ l := fun z => by rw [← z, upd_same] at hl; cases hl
  obtain ⟨r, es, er, hes, hdl⟩ : ∃ r es, (valV kvs (.inl s.1)).getD (.ref l) = .ref r ∧ ((s.1 < 0 ∧ es = []) ∨ (SOk d many s ∧ es = entM tb d.st s.1.toNat)) ∧ DL (upd (upd H p (NdO P w p [])) l (.lst [])) r (es.map (dEnt b)) := by
    rcases hs.m with hm | ⟨hm0, hmm⟩
    · exact ⟨l, [], by rw [hm, h9.2]; rfl, .inl ⟨by omega, rfl⟩, [], upd_same, .nil⟩
    · obtain ⟨r, hr1, hr2⟩ := h9.1 s.1.toNat (by omega)
      have e0 : ((s.1.toNat : Nat) : Int) = s.1 := by omega
      rw [e0] at hr1
      exact ⟨r, _, by rw [hr1]; rfl, .inr ⟨⟨hm0, hmm, hs.pm⟩, rfl⟩, hr2.ex e2⟩
  rw [er]
  obtain ⟨vs, hvs, hvd⟩ := hdl
  have hvl : vs.length = es.length := by have := hvd.len; rw [List.length_map] at this; exact this
  have hND : ND eWy P w K (upd (upd H p (NdO P w p [])) l (.lst [])) p [] := nd_nil (by rw [upd_ne nlp]; exact upd_same) hpm
  obtain ⟨H3, eH3⟩ : ∃ H3, H3 = upd (upd H p (NdO P w p [])) l (.lst []) := ⟨_, rfl⟩
  have hvd3 : DtAll H3 vs (es.map (dEnt b)) := by rw [eH3]; exact hvd
  have npr : r ≠ p := fun z => by
    obtain ⟨xs, hz, _⟩ := hND
    have h := hvs
    rw [z, hz] at h; cases h
  refine ⟨r, rfl, ⟨_, sq_of hvs⟩, ?_⟩
  refine for_it (walk_list (xs := vs)) (fun i σ H4 => ∃ (t5 t6 : Option V), σ = [some (.ref a), some (.ref aS), some (.int s.1), some vr, some (.ref p), t5, t6] ∧ Ex H H4 ∧ Tp H3 H4 ∧ H4 r = some (.lst vs) ∧ ND eWy P w K H4 p (if plc b s.2 < i then [(nxt d tb b s, .bl true)] else []))
    ⟨none, none, rfl, e2, by rw [eH3]; exact Tp.refl _, hvs, hND⟩ (fun i σ H2 _ ⟨_, _, _, _, _, h, _⟩ => sq_of h) ?_ ?_
  · rintro i y σ H4 H5 hi ⟨t5, t6, rfl, e4, t4, hr4, hnd4⟩ ⟨rfl, hy⟩
    obtain ⟨dy, hdy, hyd⟩ := (hvd3.tp t4).get hy
    obtain ⟨e, hei, rfl⟩ := mapD_get hdy
    rcases hes with ⟨_, rfl⟩ | ⟨hso, rfl⟩
    · simp at hei
    have hin : i < d.st := by rw [hvl] at hi; simpa [entM] using hi
    have hee : e = entAt tb s.1.toNat i := by
      have : (entM tb d.st s.1.toNat)[i]? = some (entAt tb s.1.toNat i) := by simp [entM, hin]
      rw [this] at hei
      exact (Option.some.inj hei).symm
    have hr5 := g2.ex e4
    refine ⟨_, rfl, _, rfl, y, vr, b, e, s.2, d.st, rfl, hyd.dp, hr5, hs.pm, hb1, hb2, fun H6 e6 => ⟨_, rfl, iB (b := decide (plc b s.2 = i)) (by rw [hee]; rfl) (fun ei => ?_) (fun ei => ?_)⟩⟩
    · have hpi : plc b s.2 = i := of_decide_eq_true ei
      have hcel : (e.2.2.1, e.2.2.2) = cel tb b s := by rw [hee, ← hpi]; rfl
      obtain ⟨row, c1, c2, c3, c4⟩ := cel_ok hT hb1 hb2 hso
      have hc1 : e.2.2.1 = (cel tb b s).1 := congrArg Prod.fst hcel
      have hc2 : e.2.2.2 = (cel tb b s).2 := congrArg Prod.snd hcel
      have e46 := e4.trans e6
      obtain ⟨dy, gs, vp, vc, vo, ql, qm, qb, kl, kb, ll, lb, k1, k2, k3, k4, k5, k6, k7, k8, k9, k10, k11, k12, k13, ⟨km, lm, k14, k15, k16⟩, _⟩ := (h3.ext e46).ex
      obtain ⟨vm, hvm, hdm⟩ := k15.get ((k16.mem_iff).mpr (hls _ c3))
      have hpm2 := mvD_pm d (cel tb b s).1
      refine ⟨_, rfl, _, rfl, a, cl.B, dx, fs, _, rfl, e46 _ _ h1, T.c_B, T.n_B_method, h2, M, cl.M, dy, gs, _, rfl, k1, T.c_M, T.n_M_moves, k13, _, rfl, ix_d (hyd.ex e6) (i := 2) (d := .str (ch e.2.2.1)) rfl fun v2 hv2 => ?_⟩
      rw [hv2.strI, hc1]
      refine ix_k (k := .inr (ch (cel tb b s).1)) (.inl k14) hvm ⟨vr, vm, s.2, _, rfl, (hr5.ex e6).dp, hdm.dp, mv_bound hs.pm hpm2, by rw [hpm2.1]; exact h8, fun vg H7 e7 hvg => ?_⟩
      have e47 := e46.trans e7
      have hnd7 := (hnd4.ex e6).ex e7
      rw [if_neg (by omega)] at hnd7
      have hyd7 := (hyd.ex e6).ex e7
      have FIN : ∀ (k : Wy) (H8 : Hp) (v8 : V), Ex H7 H8 → Dt H8 v8 (dWy k) → k = nxt d tb b s → ∀ o, ND eWy P w K (upd H8 p o) p (putK [] k (V.bl true)) → ∃ (t5' t6' : Option V), ([some (V.ref a), some (V.ref aS), some (V.int s.1), some vr, some (V.ref p), some y, some vg] : St) = [some (V.ref a), some (V.ref aS), some (V.int s.1), some vr, some (V.ref p), t5', t6'] ∧ Ex H (upd H8 p o) ∧ Tp H3 (upd H8 p o) ∧ (upd H8 p o) r = some (.lst vs) ∧ ND eWy P w K (upd H8 p o) p (if plc b s.2 < i + 1 then [(nxt d tb b s, .bl true)] else []) := by
        intro k H8 v8 e8 hv8 hk o hnd
        refine ⟨_, _, rfl, (e47.trans e8).mut hp, (t4.trans (Tp.of ((e6.trans e7).trans e8))).trans (Tp.upd (hnd7.ex e8).sft), by rw [upd_ne npr]; exact ((e6.trans e7).trans e8) _ _ hr4, ?_⟩
        rw [if_pos (by omega), ← hk]
        exact hnd
      obtain ⟨dy', gs', vp', vc', vo', ql', qm', qb', kl', kb', ll', lb', k1', k2', k3', k4', k5', k6', k7', k8', _⟩ := (h3.ext e47).ex
      refine ⟨_, rfl, _, rfl, a, cl.B, dx, fs, _, rfl, e47 _ _ h1, T.c_B, T.n_B_method, h2, M, cl.M, dy', gs', _, rfl, k1', T.c_M, T.n_M_opening, k7', eq_r hvg.dp k8'.dp ⟨_, rfl, iB (b := decide (tms s.2 (mvD d (cel tb b s).1) = rgI d.st)) rfl (fun eg => ?_) (fun eg => ?_)⟩⟩
      · have hg : tms s.2 (mvD d (cel tb b s).1) = rgI d.st := of_decide_eq_true eg
        refine ⟨_, rfl, _, rfl, ix_d hyd7 (i := 2) (d := .str (ch e.2.2.1)) rfl fun v3 hv3 => ?_⟩
        rw [hv3.strI, hc1]
        refine ⟨_, rfl, tupN_d (ds := [.int (-1), dRow (tms s.2 (mvD d (cel tb b s).1))]) (.cons (.int _) (.cons hvg .nil)) (by show 2 ≤ 100; decide) fun v4 H8 e8 hv4 => ?_⟩
        refine tupN_d (ds := [.str (ch (cel tb b s).1), dStd (-1, tms s.2 (mvD d (cel tb b s).1))]) (.cons (.str _) (.cons hv4 .nil)) (by show 2 ≤ 100; decide) fun v5 H9 e9 hv5 => ?_
        have hk : (((cel tb b s).1, (-1, tms s.2 (mvD d (cel tb b s).1))) : Wy) = nxt d tb b s := by
          unfold nxt hm nxs
          rw [if_pos hg, hg]
        have hv5 : Dt H9 v5 (dWy ((cel tb b s).1, (-1, tms s.2 (mvD d (cel tb b s).1)))) := hv5
        exact set_n (hnd7.ex (e8.trans e9)) (by rw [sizeLine_eq]; simp) hv5.kw fun o hnd => FIN _ H9 v5 (e8.trans e9) hv5 hk o hnd
      · have hg : tms s.2 (mvD d (cel tb b s).1) ≠ rgI d.st := of_decide_eq_false eg
        refine ⟨_, rfl, _, rfl, ix_d hyd7 (i := 2) (d := .str (ch e.2.2.1)) rfl fun v3 hv3 => ?_⟩
        rw [hv3.strI, hc1]
        refine ⟨_, rfl, ix_d hyd7 (i := 3) (d := .int e.2.2.2) rfl fun v6 hv6 => ⟨_, rfl, ?_⟩⟩
        rw [hv6.intI, hc2]
        refine tupN_d (ds := [.int ((cel tb b s).2 : Nat), dRow (tms s.2 (mvD d (cel tb b s).1))]) (.cons (.int _) (.cons hvg .nil)) (by show 2 ≤ 100; decide) fun v4 H8 e8 hv4 => ?_
        refine tupN_d (ds := [.str (ch (cel tb b s).1), dStd (((cel tb b s).2 : Int), tms s.2 (mvD d (cel tb b s).1))]) (.cons (.str _) (.cons hv4 .nil)) (by show 2 ≤ 100; decide) fun v5 H9 e9 hv5 => ?_
        have hk : (((cel tb b s).1, (((cel tb b s).2 : Int), tms s.2 (mvD d (cel tb b s).1))) : Wy) = nxt d tb b s := by
          unfold nxt hm nxs
          rw [if_neg hg]
        have hv5 : Dt H9 v5 (dWy ((cel tb b s).1, (((cel tb b s).2 : Int), tms s.2 (mvD d (cel tb b s).1)))) := hv5
        exact set_n (hnd7.ex (e8.trans e9)) (by rw [sizeLine_eq]; simp) hv5.kw fun o hnd => FIN _ H9 v5 (e8.trans e9) hv5 hk o hnd
    · have hpi : plc b s.2 ≠ i := of_decide_eq_false ei
      refine ⟨_, _, rfl, e4.trans e6, t4.trans (Tp.of e6), e6 _ _ hr4, ?_⟩
      have := hnd4.ex e6
      by_cases hlt : plc b s.2 < i
      · rw [if_pos hlt] at this; rw [if_pos (by omega)]; exact this
      · rw [if_neg hlt] at this; rw [if_neg (by omega)]; exact this
  · rintro σ H4 ⟨t5, t6, rfl, e4, t4, hr4, hnd4⟩
    have ekv : (if plc b s.2 < vs.length then [(nxt d tb b s, V.bl true)] else []) = (wys d tb b s).map fun k => (k, V.bl true) := by
      rw [hvl]
      rcases hes with ⟨hneg, rfl⟩ | ⟨hso, rfl⟩
      · unfold wys
        rw [if_pos hneg]; rfl
      · unfold wys
        have := (plc_get hs.pm hb1 hb2).2
        rw [if_pos (by simpa [entM] using this), if_neg (by have := hso.m0; omega)]; rfl
    rw [ekv] at hnd4
    have hwl : (wys d tb b s).length < 2 := by unfold wys; split <;> simp
    refine ⟨_, rfl, Wy, inferInstance, eWy, p, _, rfl, hnd4.r, fun p5 bs hp5 hbs => ?_⟩
    have hbs : DtAll H4 bs ((wys d tb b s).map dWy) := by
      rw [List.map_map] at hbs
      have e0 : ((wys d tb b s).map ((fun kv => (eWy.key kv.1).data) ∘ fun k => (k, V.bl true))) = (wys d tb b s).map dWy := List.map_congr_left fun k _ => data_wy k
      rw [← e0]; exact hbs
    have hbl := hbs.len
    rw [List.length_map] at hbl
    refine ⟨p5, bs, rfl, sq_of upd_same, by omega, fun p6 hp6 => ?_⟩
    have e5 := (Ex.new (o := HO.lst bs) hp5).trans (Ex.new (o := HO.lst bs) hp6)
    exact tup_d (sq_of upd_same) (hbs.ex e5) fun v H7 e7 hv => q v H7 ((e4.trans e5).trans e7) hv
end
end L2
set_option Elab.async false
set_option linter.all false
set_option maxRecDepth 100000
set_option maxHeartbeats 4000000
namespace L2
open PySem PySem.Spec PyProof.Rows Evl
/-- what is known of a conductor's parts -/
structure CdOk (d : Wd) (b : Int) (tb : List (List (Nat × Nat))) (ls : List Nat) (many : Nat) : Prop where
  w : WdOk d
  t : TbOk d.st ls many tb
  l : ∀ c ∈ ls, c ∈ lts d
  b1 : 1 ≤ b
  b2 : b ≤ d.st
  m1 : 1 ≤ many
  m4 : many ≤ 4
/-- a Conductor stands at a, its method at M -/
structure CondAt (K : PySem.W.Frag) (cl : Cls6) (H : Hp) (a M : Addr) (d : Wd) (b : Int) (tb : List (List (Nat × Nat))) : Prop where
  ex : ∃ (dx : Addr) (fs : List (Str × V)) (vt : V), H a = some (.ins cl.C dx fs) ∧ lk fs "method" = some (.ref M) ∧ MethAt K cl H M d ∧ lk fs "bell" = some (.int b) ∧ lk fs "table" = some vt ∧ Dt H vt (dTb tb) ∧ lk fs "goes_on" = none ∧ lk fs "outcome" = none ∧ lk fs "as_book" = none
theorem CondAt.ext {K : PySem.W.Frag} {cl : Cls6} {H H' : Hp} {a M : Addr} {d : Wd} {b : Int} {tb : List (List (Nat × Nat))} (h : CondAt K cl H a M d b tb) (e : Ex H H') : CondAt K cl H' a M d b tb := by
  obtain ⟨dx, fs, vt, h1, h2, h3, h4, h5, h6, h7⟩ := h.ex
  exact ⟨dx, fs, vt, e _ _ h1, h2, h3.ext e, h4, h5, h6.ex e, h7⟩
section
variable {P : Program} {w : World} {K : PySem.W.Frag} {mg : Str → Option Value} {base : Heap} {f : Addr} {fd : FuncData} {cl : Cls6}
abbrev s_Book_followers : Stmt := inClass (top 44) 4
abbrev N_Book_followers : List Str := ["self", "standing"]
theorem sc_Book_followers : FnScope N_Book_followers ["self", "standing"] (defScope s_Book_followers) := ⟨rfl, rfl, rfl, by decide +kernel, rfl, by decide +kernel, by decide +kernel⟩
def sp_Book_followers (K : PySem.W.Frag) (cl : Cls6) : Sp := fun vs H Q _ => ∃ (a M : Addr) (x : V) (d : Wd) (b : Int) (tb : List (List (Nat × Nat))) (ls : List Nat) (many : Nat) (s : Std), vs = [.ref a, x] ∧ BookAt K cl H a M d b tb many ∧ Dt H x (dStd s) ∧ CdOk d b tb ls many ∧ SKk d many s ∧
  ∀ v H', Ex H H' → Dt H' v (.tuple ((wys d tb b s).map dWy)) → Q v H'
theorem ok_Book_followers  (T : Txt K mg cl) (F : FnP K "followers" "Book.followers" s_Book_followers [] f fd) (M_Book_ways_from : MDef P w K mg base cl.B "ways_from" 2 ["self", "standing"] [] ((sp_Book_ways_from K cl))) (G_told_standing : GDef P w K mg base "told_standing" 10 ["thing", "stage"] [] ((sp_told_standing K))) : FnOk P w K mg base CX0 11 f fd ["self", "standing"] ((sp_Book_followers K cl)) := by
  refine F.ok sc_Book_followers (fun vs H Q E h => ?_) (fun cdv A outer s H vs Q E hr h => ?_)
  · unfold sp_Book_followers at h; (repeat obtain ⟨_, h⟩ := h); subst_vars; rfl
  have hu := hr.units
  refine ⟨_, PSs.nox (pss_one (ps_ret (pe_md M_Book_ways_from hr (pv 0) (pa_cons (pe_g G_told_standing hr (pa_cons (pv 1) (pa_cons (pe_fld (pe_fld (pv 0) rfl) rfl) pa_nil))) pa_nil)))), ?_⟩
  obtain ⟨a, M, x, d, b, tb, ls, many, s, rfl, hB, hx, hc, hs, q⟩ := h
  have h8 := hc.w.s8
  have hm4 := hc.m4
  obtain ⟨dx, fs, ve, q0, kvs, h1, h2, h3, h4, h5, h6, h7, h9, h10, _⟩ := hB.ex
  obtain ⟨dy, gs, vp, vc, vo, ql, qm, qb, kl, kb, ll, lb, g1, g2, _⟩ := h3.ex
  refine ⟨_, rfl, a, dx, fs, rfl, h1, h10, ?_⟩
  refine ⟨_, rfl, _, rfl, a, cl.B, dx, fs, _, rfl, h1, T.c_B, T.n_B_method, h2, M, cl.M, dy, gs, _, rfl, g1, T.c_M, T.n_M_stage, g2, ?_⟩
  refine ⟨x, s, d.st, rfl, hx.dp, by rcases hs.m with h | h <;> omega, by rcases hs.m with h | h <;> omega, hs.pm, h8, fun v H1 e1 hv => ?_⟩
  exact ⟨a, M, v, d, b, tb, ls, many, s, rfl, hB.ext e1, hv, hc.t, hc.l, h8, hc.b1, hc.b2, hs, fun v2 H2 e2 hv2 => q v2 H2 (e1.trans e2) hv2⟩
abbrev s_Book_is_stuck : Stmt := inClass (top 44) 5
abbrev N_Book_is_stuck : List Str := ["self", "standing", "kept"]
theorem sc_Book_is_stuck : FnScope N_Book_is_stuck ["self", "standing"] (defScope s_Book_is_stuck) := ⟨rfl, rfl, rfl, by decide +kernel, rfl, by decide +kernel, by decide +kernel⟩
def sp_Book_is_stuck (K : PySem.W.Frag) (cl : Cls6) : Sp := fun vs H Q _ => ∃ (a M : Addr) (x : V) (d : Wd) (b : Int) (tb : List (List (Nat × Nat))) (ls : List Nat) (many : Nat) (s : Std), vs = [.ref a, x] ∧ BookAt K cl H a M d b tb many ∧ Dt H x (dStd s) ∧ CdOk d b tb ls many ∧ SOk d many s ∧
  ∀ H', Ex H H' → Q (.bl false) H'
theorem ok_Book_is_stuck  (T : Txt K mg cl) (F : FnP K "is_stuck" "Book.is_stuck" s_Book_is_stuck [] f fd) (G_told_standing : GDef P w K mg base "told_standing" 10 ["thing", "stage"] [] ((sp_told_standing K))) (M_Book_ways_from : MDef P w K mg base cl.B "ways_from" 2 ["self", "standing"] [] ((sp_Book_ways_from K cl))) : FnOk P w K mg base CX0 11 f fd ["self", "standing"] ((sp_Book_is_stuck K cl)) := by
  refine F.ok sc_Book_is_stuck (fun vs H Q E h => ?_) (fun cdv A outer s H vs Q E hr h => ?_)
  · unfold sp_Book_is_stuck at h; (repeat obtain ⟨_, h⟩ := h); subst_vars; rfl
  have hu := hr.units
  refine ⟨_, PSs.nox (pss_cons (ps_set (i := 2) sc_Book_is_stuck.nd rfl (Or.inl rfl) (pe_g G_told_standing hr (pa_cons (pv 1) (pa_cons (pe_fld (pe_fld (pv 0) rfl) rfl) pa_nil))))
      (pss_one (ps_ret (pe_and (pe_cmpR (op_neA (K := K) hu) (pv 2) (pe_tupN (pa_cons (pe_cv T.v_Book_HOME) (pa_cons (pe_fld (pe_fld (pv 0) rfl) rfl) pa_nil))) (nomark _)) (pe_one (pe_notR (tru_A (P := P) (w := w) (K := K)) (pe_md M_Book_ways_from hr (pv 0) (pa_cons (pv 2) pa_nil)))))))), ?_⟩
  obtain ⟨a, M, x, d, b, tb, ls, many, s, rfl, hB, hx, hc, hs, q⟩ := h
  have h8 := hc.w.s8
  have hm4 := hc.m4
  have hs0 := hs.m0
  have hsm := hs.mm
  obtain ⟨dx, fs, ve, q0, kvs, h1, h2, h3, h4, h5, h6, h7, h9, h10, _⟩ := hB.ex
  obtain ⟨dy, gs, vp, vc, vo, ql, qm, qb, kl, kb, ll, lb, g1, g2, g3, g4, g5, g6, g7, g8, _⟩ := h3.ex
  refine ⟨_, rfl, _, rfl, a, cl.B, dx, fs, _, rfl, h1, T.c_B, T.n_B_method, h2, M, cl.M, dy, gs, _, rfl, g1, T.c_M, T.n_M_stage, g2, ?_⟩
  refine ⟨x, s, d.st, rfl, hx.dp, by omega, by omega, hs.pm, h8, fun v H1 e1 hv => ?_⟩
  refine ⟨_, rfl, _, rfl, a, cl.B, dx, fs, _, rfl, e1 _ _ h1, T.c_B, T.n_B_method, h2, M, cl.M, dy, gs, _, rfl, e1 _ _ g1, T.c_M, T.n_M_opening, g7, ?_⟩
  refine tupN_d (ds := [.int (-1), dRow (rgI d.st)]) (.cons (.int _) (.cons (g8.ex e1) .nil)) (by show 2 ≤ 100; decide) fun v2 H2 e2 hv2 => ?_
  refine ne_st (r := s) (s := ((-1, rgI d.st) : Std)) (hv.ex e2).dp (Dt.dp hv2) ⟨true, ?_, iT ?_⟩
  · rw [decide_eq_false (fun e => by rw [e] at hs0; have h9 : (0 : Int) ≤ -1 := hs0; omega)]; rfl
  refine ⟨_, rfl, a, dx, fs, rfl, (e1.trans e2) _ _ h1, h10, _, rfl, ?_⟩
  refine ⟨a, M, v, d, b, tb, ls, many, s, rfl, hB.ext (e1.trans e2), hv.ex e2, hc.t, hc.l, h8, hc.b1, hc.b2, hs.k, fun v3 H3 e3 hv3 => tru_t (ds := (wys d tb b s).map dWy) hv3.dp ?_⟩
  have : (!((wys d tb b s).map dWy).isEmpty) = true := by unfold wys; rw [if_neg (by omega)]; rfl
  rw [this]
  exact q _ ((e1.trans e2).trans e3)
abbrev s_is_table_row : Stmt := top 47
abbrev N_is_table_row : List Str := ["thing", "method", "many", "pair", "letter", "memory"]
theorem sc_is_table_row : FnScope N_is_table_row ["thing", "method", "many"] (defScope s_is_table_row) := ⟨rfl, rfl, rfl, by decide +kernel, rfl, by decide +kernel, by decide +kernel⟩
def sp_is_table_row (K : PySem.W.Frag) (cl : Cls6) : Sp := fun vs H Q _ => ∃ (x : V) (M : Addr) (d : Wd) (many : Nat) (row : List (Nat × Nat)), vs = [x, .ref M, .int many] ∧ Dp K H x (dCells row) ∧ MethAt K cl H M d ∧ row.length = d.st ∧ (∀ c ∈ row, c.1 ∈ lts d ∧ c.2 < many) ∧ ∀ H', Ex H H' → Q (.bl true) H'
theorem ok_is_table_row  (T : Txt K mg cl) (F : FnP K "is_table_row" "is_table_row" s_is_table_row [] f fd) (S_Method_contains : SDef P w K mg base cl.M "__contains__" 1 ["self", "letter"] ((sp_Method_contains K cl))) (G_is_integer : GDef P w K mg base "is_integer" 1 ["thing", "low", "high"] [] (sp_is_integer)) : FnOk P w K mg base CX0 2 f fd ["thing", "method", "many"] ((sp_is_table_row K cl)) := by
  refine F.ok sc_is_table_row (fun vs H Q E h => ?_) (fun cdv A outer s H vs Q E hr h => ?_)
  · unfold sp_is_table_row at h; (repeat obtain ⟨_, h⟩ := h); subst_vars; rfl
  have hu := hr.units
  refine ⟨_, PSs.nox (pss_cons (ps_if (PW.pt (pw_or (pt_not (pt_val (pe_callB call_isi (by rfl) T.b_isinstance (by decide +kernel) (pa_cons (pv 0) (pa_cons (pe_bltn (v := .ty "tuple") (u := .type "tuple") (by rfl) T.b_tuple (by decide +kernel) rfl) pa_nil))))) (pw_or1 (pt_cmpR (op_neA (K := K) hu) (pe_callB (call_lenA (P := P) (w := w) (K := K)) (by rfl) T.b_len (by decide +kernel) (pa_cons (pv 0) pa_nil)) (pe_fld (pv 1) rfl) (nomark _))))) pss_never pss_nil)
      (pss_cons (ps_for PassesOwn.never rfl (pi_tup (pv 0)) (pg_name (i := 3) sc_is_table_row.nd rfl (Or.inl rfl)) (pss_cons (ps_if (PW.pt (pw_or (pt_not (pt_val (pe_callB call_isi (by rfl) T.b_isinstance (by decide +kernel) (pa_cons (pv 3) (pa_cons (pe_bltn (v := .ty "tuple") (u := .type "tuple") (by rfl) T.b_tuple (by decide +kernel) rfl) pa_nil))))) (pw_or1 (pt_cmpR (op_neA (K := K) hu) (pe_callB (call_lenA (P := P) (w := w) (K := K)) (by rfl) T.b_len (by decide +kernel) (pa_cons (pv 3) pa_nil)) pe_int (nomark _))))) pss_never pss_nil)
      (pss_cons (ps_asg (pv 3) (pg_tup rfl (pgs_cons (pg_name (i := 4) sc_is_table_row.nd rfl (Or.inl rfl)) (pgs_cons (pg_name (i := 5) sc_is_table_row.nd rfl (Or.inl rfl)) pgs_nil))))
      (pss_one (ps_if (PW.pt (pw_or (pt_cmpR (op_notInO S_Method_contains hr) (pv 4) (pv 1) (by rfl)) (pw_or1 (pt_not (pt_val (pe_g G_is_integer hr (pa_cons (pv 5) (pa_cons pe_int (pa_cons (pe_op op_sub (pv 2) pe_int) pa_nil))))))))) pss_never pss_nil)))))
      (pss_one (ps_ret pe_bl)))), ?_⟩
  obtain ⟨x, M, d, many, row, rfl, hx, hM, hrl, hrc, q⟩ := h
  obtain ⟨a1, xs, rfl, ha1, hxs⟩ := hx.tupI
  obtain ⟨dy, gs, vp, vc, vo, ql, qm, qb, kl, kb, ll, lb, g1, g2, _⟩ := hM.ex
  refine rd_isi rfl ha1.ty (kit2 (by decide +kernel : kitB "tuple" "tuple" = some true)) (iF ?_)
  refine ⟨_, rfl, len_t (ds := row.map dCell) hx ⟨_, rfl, M, cl.M, dy, gs, _, rfl, g1, T.c_M, T.n_M_stage, g2, ne_i ⟨_, rfl, iN (by simp [hrl]) ?_⟩⟩⟩
  refine ⟨_, rfl, a1, rfl, ⟨_, ha1⟩, ?_⟩
  refine for_it (walk_tup (xs := xs)) (fun i σ H2 => ∃ t1 t2 t3, σ = [some (.ref a1), some (.ref M), some (.int many), t1, t2, t3] ∧ Ex H H2) ⟨none, none, none, rfl, Ex.refl _⟩ (fun i σ H2 _ ⟨_, _, _, _, e⟩ => ex_t e ha1) ?_ ?_
  · rintro i y σ H2 H3 hi ⟨t1, t2, t3, rfl, e2⟩ ⟨rfl, hy⟩
    obtain ⟨dd, hd, hyd⟩ := (DpAll.ex e2 _ _ hxs).get hy
    obtain ⟨c, hci, rfl⟩ := mapD_get hd
    obtain ⟨hc1, hc2⟩ := hrc c (List.mem_of_getElem? hci)
    obtain ⟨a2, ys, rfl, ha2, hys⟩ := hyd.tupI
    refine rd_isi rfl ha2.ty (kit2 (by decide +kernel : kitB "tuple" "tuple" = some true)) (iF ?_)
    refine ⟨_, rfl, len_t hyd (ne_i ⟨_, rfl, iN (by simp) ?_⟩)⟩
    cases hys with
    | cons k1 hys => cases hys with
    | cons k2 hys =>
    cases hys
    obtain rfl := k1.strI
    obtain rfl := k2.intI
    refine ⟨_, rfl, a2, _, rfl, ha2, rfl, _, _, rfl, _, _, rfl, rfl, ?_⟩
    refine ⟨_, rfl, _, rfl, M, dy, gs, rfl, e2 _ _ g1, M, d, c.1, rfl, hM.ext e2, hc1, true, rfl, _, rfl, iF ?_⟩
    refine ⟨_, rfl, _, rfl, _, _, rfl, rfl, c.2, 0, (many : Int) - 1, rfl, true, by simp; omega, iF ?_⟩
    exact ⟨_, _, _, rfl, e2⟩
  · rintro σ H2 ⟨t1, t2, t3, rfl, e2⟩
    exact q _ e2
abbrev s_told_table : Stmt := top 48
abbrev N_told_table : List Str := ["method", "table", "kept", "number", "row"]
theorem sc_told_table : FnScope N_told_table ["method", "table"] (defScope s_told_table) := ⟨rfl, rfl, rfl, by decide +kernel, rfl, by decide +kernel, by decide +kernel⟩
def sp_told_table (K : PySem.W.Frag) (cl : Cls6) : Sp := fun vs H Q _ => ∃ (x : V) (M : Addr) (d : Wd) (b : Int) (tb : List (List (Nat × Nat))) (ls : List Nat) (many : Nat), vs = [.ref M, x] ∧ Dp K H x (dTb tb) ∧ MethAt K cl H M d ∧ CdOk d b tb ls many ∧ ∀ v H', Ex H H' → Dt H' v (dTb tb) → Q v H'
theorem Dep.tb {n : Nat} {tb : List (List (Nat × Nat))} (h : tb.length ≤ 1000) (hr : ∀ r ∈ tb, r.length ≤ 1000) : Dep (n + 3) (dTb tb) := by
  refine ⟨by rw [List.length_map]; exact h, fun d hd => ?_⟩
  obtain ⟨r, hm, rfl⟩ := List.mem_map.mp hd
  refine ⟨by rw [List.length_map]; exact hr r hm, fun d hd => ?_⟩
  obtain ⟨c, _, rfl⟩ := List.mem_map.mp hd
  refine ⟨by show 2 ≤ 1000; decide, fun d hd => ?_⟩
  rcases List.mem_cons.mp hd with e | hd
  · subst e; cases n <;> trivial
  · rw [List.mem_singleton.mp hd]; cases n <;> trivial
theorem ok_told_table  (T : Txt K mg cl) (F : FnP K "told_table" "told_table" s_told_table [] f fd) (G_deep : GDef P w K mg base "deep" 9 ["thing", "level"] [.int 0] (sp_deep K 8)) (G_is_table_row : GDef P w K mg base "is_table_row" 2 ["thing", "method", "many"] [] ((sp_is_table_row K cl))) : FnOk P w K mg base CX0 10 f fd ["method", "table"] ((sp_told_table K cl)) := by
  refine F.ok sc_told_table (fun vs H Q E h => ?_) (fun cdv A outer s H vs Q E hr h => ?_)
  · unfold sp_told_table at h; (repeat obtain ⟨_, h⟩ := h); subst_vars; rfl
  have hu := hr.units
  refine ⟨_, PSs.nox (pss_cons (ps_set (i := 2) sc_told_table.nd rfl (Or.inl rfl) (pe_g G_deep hr (pa_cons (pv 1) pa_nil)))
      (pss_cons (ps_if (PW.pt (pw_or (pt_not (pt_val (pe_callB call_isi (by rfl) T.b_isinstance (by decide +kernel) (pa_cons (pv 2) (pa_cons (pe_bltn (v := .ty "tuple") (u := .type "tuple") (by rfl) T.b_tuple (by decide +kernel) rfl) pa_nil))))) (pw_or1 (pt_not (pt_chain op_le op_le pe_int (pe_callB (call_lenA (P := P) (w := w) (K := K)) (by rfl) T.b_len (by decide +kernel) (pa_cons (pv 2) pa_nil)) (pe_gci T.c_MOST_MEMORIES)))))) pss_never pss_nil)
      (pss_cons (ps_for PassesOwn.never rfl (pi_enumT (by rfl) T.b_enumerate (pa_cons (pv 2) pa_nil)) (pg_tup rfl (pgs_cons (pg_name (i := 3) sc_told_table.nd rfl (Or.inl rfl)) (pgs_cons (pg_name (i := 4) sc_told_table.nd rfl (Or.inl rfl)) pgs_nil))) (pss_one (ps_if (pt_not (pt_val (pe_g G_is_table_row hr (pa_cons (pv 4) (pa_cons (pv 0) (pa_cons (pe_callB (call_lenA (P := P) (w := w) (K := K)) (by rfl) T.b_len (by decide +kernel) (pa_cons (pv 2) pa_nil)) pa_nil)))))) pss_never pss_nil)))
      (pss_one (ps_ret (pv 2)))))), ?_⟩
  obtain ⟨x, M, d, b, tb, ls, many, rfl, hx, hM, hc, q⟩ := h
  have hm4 := hc.m4
  have hm1 := hc.m1
  have hl := hc.t.len
  have h8 := hc.w.s8
  refine ⟨_, rfl, x, dTb tb, 0, rfl, hx, Dep.tb (n := 5) (by omega) (fun r hr => by rw [hc.t.row r hr]; omega), by omega, by omega, fun v H1 e1 hv => ?_⟩
  obtain ⟨a1, o1, xs, rfl, ha1, _, hxs⟩ := hv.tupI
  have hT1 : SqT K H1 a1 xs := .inl (.inr ⟨o1, ha1⟩)
  refine rd_isi rfl hT1.ty (kit2 (by decide +kernel : kitB "tuple" "tuple" = some true)) (iF ?_)
  refine ⟨_, rfl, len_t (ds := tb.map dCells) hv.dp ⟨_, _, rfl, rfl, _, rfl, iP (by simp; omega) ⟨_, _, rfl, rfl, _, rfl, iN (by simp; omega) ?_⟩⟩⟩
  refine ⟨_, rfl, a1, xs, rfl, hT1, ?_⟩
  refine for_it (walk_enumT (xs := xs)) (fun i σ H2 => ∃ t1 t2, σ = [some (.ref M), some x, some (.ref a1), t1, t2] ∧ Ex H1 H2) ⟨none, none, rfl, Ex.refl _⟩ (fun i σ H2 _ ⟨_, _, _, e⟩ => ex_t e hT1) ?_ ?_
  · rintro i y σ H2 H3 hi ⟨t1, t2, rfl, e2⟩ ⟨T0, u1, u2, rfl, hT0, rfl, hu1, hu2⟩
    cases hu1
    have e3 : Ex H2 (upd H2 T0 (.tup [.int (i : Nat), u2])) := Ex.new hT0
    obtain ⟨dd, hd, hyd⟩ := (hxs.ex (e2.trans e3)).get hu2
    obtain ⟨r, hr, rfl⟩ := mapD_get hd
    have hrm := List.mem_of_getElem? hr
    refine ⟨T0, _, rfl, st_of upd_same, rfl, _, _, rfl, _, _, rfl, rfl, ?_⟩
    refine ⟨_, rfl, _, rfl, _, rfl, len_t (ds := tb.map dCells) (hv.ex (e2.trans e3)).dp ?_⟩
    refine ⟨u2, M, d, many, r, by rw [List.length_map, hl]; rfl, hyd.dp, hM.ext (e1.trans (e2.trans e3)), hc.t.row r hrm, fun c hcm => ⟨hc.l _ (hc.t.cell r hrm c hcm).1, (hc.t.cell r hrm c hcm).2⟩, fun H4 e4 => ⟨true, rfl, iF ⟨_, _, rfl, (e2.trans e3).trans e4⟩⟩⟩
  · rintro σ H2 ⟨t1, t2, rfl, e2⟩
    exact ⟨_, rfl, q _ _ (e1.trans e2) (hv.ex e2)⟩
abbrev s_Conductor_init : Stmt := inClass (top 49) 0
abbrev N_Conductor_init : List Str := ["self", "method", "bell", "table"]
theorem sc_Conductor_init : FnScope N_Conductor_init ["self", "method", "bell", "table"] (defScope s_Conductor_init) := ⟨rfl, rfl, rfl, by decide +kernel, rfl, by decide +kernel, by decide +kernel⟩
def sp_Conductor_init (K : PySem.W.Frag) (cl : Cls6) : Sp := fun vs H Q _ => ∃ (p dx : Addr) (x : V) (M : Addr) (d : Wd) (b : Int) (tb : List (List (Nat × Nat))) (ls : List Nat) (many : Nat), vs = [.ref p, .ref M, .int b, x] ∧ H p = some (.ins cl.C dx []) ∧ p ≠ M ∧ Dt H x (dTb tb) ∧ MethAt K cl H M d ∧ CdOk d b tb ls many ∧
  ∀ H', ExB p H H' → (MethAt K cl H' M d → CondAt K cl H' p M d b tb) → Q .non H'
theorem ok_Conductor_init  (T : Txt K mg cl) (F : FnP K "__init__" "Conductor.__init__" s_Conductor_init [] f fd) (G_is_integer : GDef P w K mg base "is_integer" 1 ["thing", "low", "high"] [] (sp_is_integer)) (G_told_table : GDef P w K mg base "told_table" 10 ["method", "table"] [] ((sp_told_table K cl))) : FnOk P w K mg base CX0 11 f fd ["self", "method", "bell", "table"] ((sp_Conductor_init K cl)) := by
  refine F.ok sc_Conductor_init (fun vs H Q E h => ?_) (fun cdv A outer s H vs Q E hr h => ?_)
  · unfold sp_Conductor_init at h; (repeat obtain ⟨_, h⟩ := h); subst_vars; rfl
  have hu := hr.units
  refine ⟨_, PSs.nox (pss_cons (ps_if (pt_not (pt_val (pe_g G_is_integer hr (pa_cons (pv 2) (pa_cons pe_int (pa_cons (pe_fld (pv 1) rfl) pa_nil)))))) pss_never pss_nil)
      (pss_cons (ps_fld (pv 0) (pv 1) rfl)
      (pss_cons (ps_fld (pv 0) (pv 2) rfl)
      (pss_one (ps_fld (pv 0) (pe_g G_told_table hr (pa_cons (pv 1) (pa_cons (pv 3) pa_nil))) rfl))))), ?_⟩
  obtain ⟨p, dx, x, M, d, b, tb, ls, many, rfl, hp, hpM, hx, hM, hc, q⟩ := h
  have hb1 := hc.b1
  have hb2 := hc.b2
  obtain ⟨dy, gs, vp, vc, vo, ql, qm, qb, kl, kb, ll, lb, g1, g2, _⟩ := hM.ex
  refine ⟨_, rfl, _, rfl, M, cl.M, dy, gs, _, rfl, g1, T.c_M, T.n_M_stage, g2, b, 1, d.st, rfl, true, by simp; omega, iF ?_⟩
  refine ⟨_, rfl, _, rfl, p, cl.C, dx, _, rfl, hp, T.c_C, T.n_C_method, by show 0 < 1000; decide, ?_⟩
  refine ⟨_, rfl, _, rfl, p, cl.C, dx, _, rfl, upd_same, T.c_C, T.n_C_bell, by show 1 < 1000; decide, ?_⟩
  rw [upd_upd]
  generalize eF2 : putF "bell" (V.int b) (putF "method" (V.ref M) []) = F2
  have lF2 : F2.length ≤ 2 := by rw [← eF2]; have a1 := len_putF "bell" (V.int b) (putF "method" (V.ref M) []); have a2 := len_putF "method" (V.ref M) []; simp at a2; omega
  have b1 : ExB p H (upd H p (.ins cl.C dx F2)) := (ExB.refl p H).fld
  have t1 : Tp H (upd H p (.ins cl.C dx F2)) := Tp.upd (by rw [hp]; trivial)
  have hp1 : upd H p (.ins cl.C dx F2) p = some (.ins cl.C dx F2) := upd_same
  have hM1 : MethAt K cl (upd H p (.ins cl.C dx F2)) M d := by
    obtain ⟨dx', fs', vp', vc', vo', ql', qm', qb', kl', kb', ll', lb', m1, m2, m3, m4, m5, m6, m7, m8, m9, m10, m11, m12, m13, ⟨km, lm, m14, m15, m16⟩, m17, m18, m19, m20⟩ := hM.ex
    have ne : ∀ q o, H q = some (.dK o) → q ≠ p := fun q o hq z => by rw [z, hp] at hq; cases hq
    exact ⟨dx', fs', vp', vc', vo', ql', qm', qb', kl', kb', ll', lb', by rw [upd_ne (Ne.symm hpM)]; exact m1, m2, m3, m4.tp t1, m5, m6.tp t1, m7, m8.tp t1, m9, by rw [upd_ne (ne _ _ m10)]; exact m10, m11, m12, m13, ⟨km, lm, by rw [upd_ne (ne _ _ m14)]; exact m14, m15.imp fun c v q => q.tp t1, m16⟩, m17, by rw [upd_ne (ne _ _ m18)]; exact m18, m19.imp fun c v ⟨rows, q1, q2⟩ => ⟨rows, q1.tp t1, q2⟩, m20⟩
  refine ⟨_, rfl, _, rfl, x, M, d, b, tb, ls, many, rfl, (hx.tp t1).dp, hM1, hc, fun v H2 e2 hv => ?_⟩
  refine ⟨_, rfl, p, cl.C, dx, _, rfl, e2 _ _ hp1, T.c_C, T.n_C_table, by omega, ?_⟩
  have t2 : Tp H2 (upd H2 p (.ins cl.C dx (putF "table" v F2))) := Tp.upd (by rw [e2 _ _ hp1]; trivial)
  refine q _ ((b1.ext e2).fld) fun hM3 => ⟨dx, _, v, upd_same, ?_, hM3, ?_, ?_, hv.tp t2, ?_⟩
  · subst eF2
    (show List.lookup _ _ = _; repeat (first | exact lkE | rw [lkN (by decide +kernel)]))
  · subst eF2
    (show List.lookup _ _ = _; repeat (first | exact lkE | rw [lkN (by decide +kernel)]))
  · (show List.lookup _ _ = _; repeat (first | exact lkE | rw [lkN (by decide +kernel)]))
  · subst eF2
    refine ⟨?_, ?_, ?_⟩ <;> (show List.lookup _ _ = _; rw [lkN (by decide +kernel), lkN (by decide +kernel), lkN (by decide +kernel)]; rfl)
abbrev s_Conductor_goes_on : Stmt := inClass (top 49) 1
abbrev N_Conductor_goes_on : List Str := ["self", "memory", "row", "letter", "after"]
theorem sc_Conductor_goes_on : FnScope N_Conductor_goes_on ["self", "memory", "row"] (defScope s_Conductor_goes_on) := ⟨rfl, rfl, rfl, by decide +kernel, rfl, by decide +kernel, by decide +kernel⟩
def sp_Conductor_goes_on (K : PySem.W.Frag) (cl : Cls6) : Sp := fun vs H Q _ => ∃ (a M : Addr) (x : V) (d : Wd) (b : Int) (tb : List (List (Nat × Nat))) (ls : List Nat) (many : Nat) (s : Std), vs = [.ref a, .int s.1, x] ∧ CondAt K cl H a M d b tb ∧ Dt H x (dRow s.2) ∧ CdOk d b tb ls many ∧ SOk d many s ∧
  ∀ v H', Ex H H' → Dt H' v (.tuple [.str (ch (cel tb b s).1), .int (nxs d tb b s).1, dRow (nxs d tb b s).2]) → Q v H'
/-- self.table[memory][place_in(row, self.bell) - 1] -/
theorem cond_cell {H : Hp} {x vt : V} {d : Wd} {b : Int} {tb : List (List (Nat × Nat))} {ls : List Nat} {many : Nat} {s : Std} {Q : VK} (hc : CdOk d b tb ls many) (hs : SOk d many s) (ht : Dt H vt (dTb tb)) (q : ∀ v, Dt H v (dCell (cel tb b s)) → Q v H) :
    rIxA P w K vt (.int s.1) H fun y H1 => rIxA P w K y (.int ((plc b s.2 : Nat) : Int)) H1 Q := by
  obtain ⟨row, c1, c2, c3, c4⟩ := cel_ok hc.t hc.b1 hc.b2 hs
  refine ix_d ht (d := dCells row) (atZ hs.m0 (by rw [List.getElem?_map, c1]; rfl)) fun v1 hv1 => ?_
  exact ix_d hv1 (d := dCell (cel tb b s)) (atN (by rw [List.getElem?_map, c2]; rfl)) q
theorem ok_Conductor_goes_on  (T : Txt K mg cl) (F : FnP K "goes_on" "Conductor.goes_on" s_Conductor_goes_on [] f fd) (G_place_in : GDef P w K mg base "place_in" 1 ["row", "bell"] [] (sp_place_in)) (G_times : GDef P w K mg base "times" 1 ["row", "move"] [] ((sp_times K))) : FnOk P w K mg base CX0 2 f fd ["self", "memory", "row"] ((sp_Conductor_goes_on K cl)) := by
  refine F.ok sc_Conductor_goes_on (fun vs H Q E h => ?_) (fun cdv A outer s H vs Q E hr h => ?_)
  · unfold sp_Conductor_goes_on at h; (repeat obtain ⟨_, h⟩ := h); subst_vars; rfl
  have hu := hr.units
  refine ⟨_, PSs.nox (pss_cons (ps_asg (pe_ix (ix_A (P := P) (w := w) (K := K) hu) (pe_ix (ix_A (P := P) (w := w) (K := K) hu) (pe_fld (pv 0) rfl) (pv 1) (fun _ _ => rfl)) (pe_op op_sub (pe_g G_place_in hr (pa_cons (pv 2) (pa_cons (pe_fld (pv 0) rfl) pa_nil))) pe_int) (fun _ _ => rfl)) (pg_tup rfl (pgs_cons (pg_name (i := 3) sc_Conductor_goes_on.nd rfl (Or.inl rfl)) (pgs_cons (pg_name (i := 4) sc_Conductor_goes_on.nd rfl (Or.inl rfl)) pgs_nil))))
      (pss_one (ps_ret (pe_tupN (pa_cons (pv 3) (pa_cons (pv 4) (pa_cons (pe_g G_times hr (pa_cons (pv 2) (pa_cons (pe_ix (ix_A (P := P) (w := w) (K := K) hu) (pe_fld (pe_fld (pv 0) rfl) rfl) (pv 3) (fun _ _ => rfl)) pa_nil))) pa_nil))))))), ?_⟩
  obtain ⟨a, M, x, d, b, tb, ls, many, s, rfl, hC, hx, hc, hs, q⟩ := h
  have h8 := hc.w.s8
  obtain ⟨dx, fs, vt, h1, h2, h3, h4, h5, h6, _⟩ := hC.ex
  obtain ⟨row, c1, c2, c3, c4⟩ := cel_ok hc.t hc.b1 hc.b2 hs
  obtain ⟨hpl, hpn⟩ := plc_get hs.pm hc.b1 hc.b2
  refine ⟨_, rfl, a, cl.C, dx, fs, _, rfl, h1, T.c_C, T.n_C_table, h5, _, rfl, ix_d h6 (d := dCells row) (atZ hs.m0 (by rw [List.getElem?_map, c1]; rfl)) fun v1 hv1 => ?_⟩
  refine ⟨_, rfl, _, rfl, a, cl.C, dx, fs, _, rfl, h1, T.c_C, T.n_C_bell, h4, x, s.2, b, plc b s.2, rfl, hx, hpl, hs.pm.2.2, _, _, rfl, rfl, ?_⟩
  refine ix_d hv1 (i := ((plc b s.2 : Nat) : Int) + 1 - 1) (d := dCell (cel tb b s)) (by rw [Int.add_sub_cancel]; exact atN (by rw [List.getElem?_map, c2]; rfl)) fun v2 hv2 => ?_
  obtain ⟨aD, oD, xD, rfl, hD1, hD2, hD3⟩ := hv2.tupI
  cases hD3 with
  | cons g1 hD3 => cases hD3 with
  | cons g2 hD3 =>
  cases hD3
  obtain rfl := g1.strI
  obtain rfl := g2.intI
  refine ⟨aD, _, rfl, .inl (.inr ⟨oD, hD1⟩), rfl, _, _, rfl, _, _, rfl, rfl, ?_⟩
  obtain ⟨dy, gs, vp, vc, vo, ql, qm, qb, kl, kb, ll, lb, k1, k2, k3, k4, k5, k6, k7, k8, k9, k10, k11, k12, k13, ⟨km, lm, k14, k15, k16⟩, _⟩ := h3.ex
  obtain ⟨vm, hvm, hdm⟩ := k15.get ((k16.mem_iff).mpr (hc.l _ c3))
  have hpm2 := mvD_pm d (cel tb b s).1
  refine ⟨_, rfl, _, rfl, _, rfl, _, rfl, a, cl.C, dx, fs, _, rfl, h1, T.c_C, T.n_C_method, h2, M, cl.M, dy, gs, _, rfl, k1, T.c_M, T.n_M_moves, k13, _, rfl, ix_k (k := .inr (ch (cel tb b s).1)) (.inl k14) hvm ?_⟩
  refine ⟨x, vm, s.2, _, rfl, hx.dp, hdm.dp, mv_bound hs.pm hpm2, by rw [hpm2.1]; exact h8, fun vg H7 e7 hvg => ?_⟩
  exact tupN_d (ds := [.str (ch (cel tb b s).1), .int (nxs d tb b s).1, dRow (nxs d tb b s).2]) (.cons (.str _) (.cons (.int _) (.cons hvg .nil))) (by show 3 ≤ 100; decide) fun v8 H8 e8 hv8 => q v8 H8 (e7.trans e8) hv8
abbrev s_Conductor_call : Stmt := inClass (top 49) 4
abbrev N_Conductor_call : List Str := ["self", "memory", "row", "kept"]
theorem sc_Conductor_call : FnScope N_Conductor_call ["self", "memory", "row"] (defScope s_Conductor_call) := ⟨rfl, rfl, rfl, by decide +kernel, rfl, by decide +kernel, by decide +kernel⟩
def sp_Conductor_call (K : PySem.W.Frag) (cl : Cls6) : Sp := fun vs H Q _ => ∃ (a M : Addr) (x : V) (d : Wd) (b : Int) (tb : List (List (Nat × Nat))) (ls : List Nat) (many : Nat) (s : Std), vs = [.ref a, .int s.1, x] ∧ CondAt K cl H a M d b tb ∧ Dt H x (dRow s.2) ∧ CdOk d b tb ls many ∧ SOk d many s ∧
  ∀ v H', Ex H H' → Dt H' v (dCell (cel tb b s)) → Q v H'
theorem ok_Conductor_call  (T : Txt K mg cl) (F : FnP K "__call__" "Conductor.__call__" s_Conductor_call [] f fd) (G_is_integer : GDef P w K mg base "is_integer" 1 ["thing", "low", "high"] [] (sp_is_integer)) (G_told_row : GDef P w K mg base "told_row" 3 ["thing", "stage"] [] ((sp_told_row K))) (G_place_in : GDef P w K mg base "place_in" 1 ["row", "bell"] [] (sp_place_in)) : FnOk P w K mg base CX0 4 f fd ["self", "memory", "row"] ((sp_Conductor_call K cl)) := by
  refine F.ok sc_Conductor_call (fun vs H Q E h => ?_) (fun cdv A outer s H vs Q E hr h => ?_)
  · unfold sp_Conductor_call at h; (repeat obtain ⟨_, h⟩ := h); subst_vars; rfl
  have hu := hr.units
  refine ⟨_, PSs.nox (pss_cons (ps_if (pt_not (pt_val (pe_g G_is_integer hr (pa_cons (pv 1) (pa_cons pe_int (pa_cons (pe_op op_sub (pe_callB (call_lenA (P := P) (w := w) (K := K)) (by rfl) T.b_len (by decide +kernel) (pa_cons (pe_fld (pv 0) rfl) pa_nil)) pe_int) pa_nil)))))) pss_never pss_nil)
      (pss_cons (ps_set (i := 3) sc_Conductor_call.nd rfl (Or.inl rfl) (pe_g G_told_row hr (pa_cons (pv 2) (pa_cons (pe_fld (pe_fld (pv 0) rfl) rfl) pa_nil))))
      (pss_one (ps_ret (pe_ix (ix_A (P := P) (w := w) (K := K) hu) (pe_ix (ix_A (P := P) (w := w) (K := K) hu) (pe_fld (pv 0) rfl) (pv 1) (fun _ _ => rfl)) (pe_op op_sub (pe_g G_place_in hr (pa_cons (pv 3) (pa_cons (pe_fld (pv 0) rfl) pa_nil))) pe_int) (fun _ _ => rfl)))))), ?_⟩
  obtain ⟨a, M, x, d, b, tb, ls, many, s, rfl, hC, hx, hc, hs, q⟩ := h
  have h8 := hc.w.s8
  have hs0 := hs.m0
  have hsm := hs.mm
  have htl := hc.t.len
  obtain ⟨dx, fs, vt, h1, h2, h3, h4, h5, h6, _⟩ := hC.ex
  obtain ⟨row, c1, c2, c3, c4⟩ := cel_ok hc.t hc.b1 hc.b2 hs
  obtain ⟨hpl, hpn⟩ := plc_get hs.pm hc.b1 hc.b2
  obtain ⟨dy, gs, vp, vc, vo, ql, qm, qb, kl, kb, ll, lb, k1, k2, _⟩ := h3.ex
  refine ⟨_, rfl, _, rfl, a, cl.C, dx, fs, _, rfl, h1, T.c_C, T.n_C_table, h5, len_t (ds := tb.map dCells) h6.dp ⟨_, _, rfl, rfl, s.1, 0, _, rfl, true, by simp; omega, iF ?_⟩⟩
  refine ⟨_, rfl, _, rfl, a, cl.C, dx, fs, _, rfl, h1, T.c_C, T.n_C_method, h2, M, cl.M, dy, gs, _, rfl, k1, T.c_M, T.n_M_stage, k2, x, s.2, d.st, rfl, hx, hs.pm, h8, fun H1 e1 => ?_⟩
  refine ⟨_, rfl, a, cl.C, dx, fs, _, rfl, e1 _ _ h1, T.c_C, T.n_C_table, h5, _, rfl, ix_d (h6.ex e1) (d := dCells row) (atZ hs.m0 (by rw [List.getElem?_map, c1]; rfl)) fun v1 hv1 => ?_⟩
  refine ⟨_, rfl, _, rfl, a, cl.C, dx, fs, _, rfl, e1 _ _ h1, T.c_C, T.n_C_bell, h4, x, s.2, b, plc b s.2, rfl, hx.ex e1, hpl, hs.pm.2.2, _, _, rfl, rfl, ?_⟩
  exact ix_d hv1 (i := ((plc b s.2 : Nat) : Int) + 1 - 1) (d := dCell (cel tb b s)) (by rw [Int.add_sub_cancel]; exact atN (by rw [List.getElem?_map, c2]; rfl)) fun v2 hv2 => q v2 _ e1 hv2
end
end L2
set_option Elab.async false
set_option linter.all false
set_option maxRecDepth 100000
set_option maxHeartbeats 4000000
namespace L2
open PySem PySem.Spec PyProof.Rows Evl
/-- what a conductor's walk comes to: letters L, z = -1 for a round, else the place it comes back to -/
def outD (L : List Nat) (z : Int) : PyData := if z < 0 then .tuple [.str "round", .str (tx L)] else .tuple [.str "loop", .str (tx (L.take z.toNat)), .str (tx (L.drop z.toNat))]
theorem sum_ch : ∀ ls : List Nat, ((ls.map ch).map (·.length)).sum = ls.length
  | [] => rfl
  | a :: l => by rw [List.map_cons, List.map_cons, List.sum_cons, sum_ch l, List.length_cons]; show 1 + l.length = _; omega
section
variable {P : Program} {w : World} {K : PySem.W.Frag} {mg : Str → Option Value} {base : Heap} {f : Addr} {fd : FuncData} {cl : Cls6}
theorem join_sz {ls : List Nat} (h : ls.length ≤ 1000) : ((ls.map ch).map (·.length)).sum + (ls.map ch).length * ("" : Str).length ≤ 16777216 := by
  rw [sum_ch, List.length_map]
  show ls.length + ls.length * 0 ≤ _
  omega
abbrev s_Conductor_outcome : Stmt := inClass (top 49) 2
abbrev N_Conductor_outcome : List Str := ["self", "start", "first", "there", "called", "memory", "row", "letter", "at"]
theorem sc_Conductor_outcome : FnScope N_Conductor_outcome ["self", "start"] (defScope s_Conductor_outcome) := ⟨rfl, rfl, rfl, by decide +kernel, rfl, by decide +kernel, by decide +kernel⟩
def sp_Conductor_outcome (K : PySem.W.Frag) (cl : Cls6) : Sp := fun vs H Q _ => ∃ (a M : Addr) (d : Wd) (b : Int) (tb : List (List (Nat × Nat))) (ls : List Nat) (many N : Nat), vs = [.ref a, .non] ∧ CondAt K cl H a M d b tb ∧ CdOk d b tb ls many ∧ Wk d tb b N ∧
  ∀ v z H', Ex H H' → AtW d tb b N z → Dt H' v (outD (lets d tb b N) z) → Q v H'
theorem ok_Conductor_outcome  (T : Txt K mg cl) (F : FnP K "outcome" "Conductor.outcome" s_Conductor_outcome [.non] f fd) (G_told_row : GDef P w K mg base "told_row" 3 ["thing", "stage"] [] ((sp_told_row K))) (M_Conductor_goes_on : MDef P w K mg base cl.C "goes_on" 2 ["self", "memory", "row"] [] ((sp_Conductor_goes_on K cl))) : FnOk P w K mg base CX0 4 f fd ["self", "start"] ((sp_Conductor_outcome K cl)) := by
  refine F.ok sc_Conductor_outcome (fun vs H Q E h => ?_) (fun cdv A outer s H vs Q E hr h => ?_)
  · unfold sp_Conductor_outcome at h; (repeat obtain ⟨_, h⟩ := h); subst_vars; rfl
  have hu := hr.units
  refine ⟨_, PSs.nox (pss_cons (ps_set (i := 2) sc_Conductor_outcome.nd rfl (Or.inl rfl) (pe_ifExp (pt_cmpR op_isC (pv 1) pe_non (nomark _)) (pe_fld (pe_fld (pv 0) rfl) rfl) (pe_g G_told_row hr (pa_cons (pv 1) (pa_cons (pe_fld (pe_fld (pv 0) rfl) rfl) pa_nil)))))
      (pss_cons (ps_set (i := 3) sc_Conductor_outcome.nd rfl (Or.inl rfl) (pe_dispN hu (pe_tupN (pa_cons pe_int (pa_cons (pv 2) pa_nil))) pe_int))
      (pss_cons (ps_set (i := 4) sc_Conductor_outcome.nd rfl (Or.inl rfl) (pe_lst pa_nil))
      (pss_cons (ps_set (i := 5) sc_Conductor_outcome.nd rfl (Or.inl rfl) pe_int)
      (pss_cons (ps_set (i := 6) sc_Conductor_outcome.nd rfl (Or.inl rfl) (pv 2))
      (pss_one (ps_while PassesOwn.never (pt_val pe_bl) (pss_cons (ps_asg (pe_md M_Conductor_goes_on hr (pv 0) (pa_cons (pv 5) (pa_cons (pv 6) pa_nil))) (pg_tup rfl (pgs_cons (pg_name (i := 7) sc_Conductor_outcome.nd rfl (Or.inl rfl)) (pgs_cons (pg_name (i := 5) sc_Conductor_outcome.nd rfl (Or.inl rfl)) (pgs_cons (pg_name (i := 6) sc_Conductor_outcome.nd rfl (Or.inl rfl)) pgs_nil)))))
      (pss_cons (ps_expr (pe_bm PySem.F.plainAttrs_list PySem.F.slot_list_append PySem.F.type_list_append mt_append (pv 4) (pa_cons (pv 7) pa_nil)))
      (pss_cons (ps_if (pt_cmpR (op_eqA (K := K) hu) (pv 6) (pv 2) (nomark _)) (pss_one (ps_ret (pe_tupN (pa_cons pe_str (pa_cons (pe_bm PySem.F.plainAttrs_str PySem.F.slot_str_join PySem.F.type_str_join mt_join pe_str (pa_cons (pv 4) pa_nil)) pa_nil))))) pss_nil)
      (pss_cons (ps_if (pt_cmpR (op_inA (P := P) (w := w) (K := K) hu) (pe_tupN (pa_cons (pv 5) (pa_cons (pv 6) pa_nil))) (pv 3) (by rfl)) (pss_cons (ps_set (i := 8) sc_Conductor_outcome.nd rfl (Or.inl rfl) (pe_ix (ix_A (P := P) (w := w) (K := K) hu) (pv 3) (pe_tupN (pa_cons (pv 5) (pa_cons (pv 6) pa_nil))) (fun _ _ => rfl)))
      (pss_one (ps_ret (pe_tupN (pa_cons pe_str (pa_cons (pe_bm PySem.F.plainAttrs_str PySem.F.slot_str_join PySem.F.type_str_join mt_join pe_str (pa_cons (pe_slice (sl_A (K := K)) (pv 4) po_none (po_some (pv 8))) pa_nil)) (pa_cons (pe_bm PySem.F.plainAttrs_str PySem.F.slot_str_join PySem.F.type_str_join mt_join pe_str (pa_cons (pe_slice (sl_A (K := K)) (pv 4) (po_some (pv 8)) po_none) pa_nil)) pa_nil))))))) pss_nil)
      (pss_one (ps_asg (pe_callB (call_lenA (P := P) (w := w) (K := K)) (by rfl) T.b_len (by decide +kernel) (pa_cons (pv 4) pa_nil)) (pg_sub (pv 3) (pe_tupN (pa_cons (pv 5) (pa_cons (pv 6) pa_nil))) (set_A (P := P) (w := w) (K := K) hu))))))))))))))), ?_⟩
  obtain ⟨a, M, d, b, tb, ls, many, N, rfl, hC, hc, hN, q⟩ := h
  have h8 := hc.w.s8
  have hn390 := hN.n390
  have hS := fun i => sq_ok (d := d) hc.t hc.m1 hc.b1 hc.b2 i
  obtain ⟨dx, fs, vt, h1, h2, h3, h4, h5, h6, h7, _⟩ := hC.ex
  obtain ⟨dy, gs, vp, vc, vo, ql, qm, qb, kl, kb, ll, lb, k1, k2, k3, k4, k5, k6, k7, k8, _⟩ := h3.ex
  refine ⟨_, rfl, rfl, .inl rfl, _, rfl, iP (decide_eq_true rfl) ⟨_, rfl, a, cl.C, dx, fs, _, rfl, h1, T.c_C, T.n_C_method, h2, M, cl.M, dy, gs, _, rfl, k1, T.c_M, T.n_M_opening, k7, ?_⟩⟩
  intro t ht htm
  have e1 := Ex.new (o := NdO P w t []) ht
  refine ⟨_, rfl, tupN_d (ds := [.int 0, dRow (rgI d.st)]) (.cons (.int _) (.cons (k8.ex e1) .nil)) (by show 2 ≤ 100; decide) fun v2 H2 e2 hv2 => ?_⟩
  refine ⟨Std, inferInstance, eStd, ((0, rgI d.st) : Std), e2 _ _ upd_same, Dt.ks (s := ((0, rgI d.st) : Std)) hv2, fun o hnd => ?_⟩
  have e3 : Ex H (upd H2 t o) := (e1.trans e2).mut ht
  refine ⟨by show 0 ≤ sizeLine; decide, fun p hp => ?_⟩
  have e4 : Ex H (upd (upd H2 t o) p (.lst [])) := e3.trans (Ex.new hp)
  have np : H p = none := fresh_back e3 hp
  have npt : p ≠ t := fun z => by
    obtain ⟨xs, hz, _⟩ := hnd
    rw [z, hz] at hp; cases hp
  refine ⟨_, rfl, ?_⟩
  refine ⟨fun m σ H5 => ∃ (i : Nat) (vr : V) (t7 t8 : Option V), i < N ∧ m = N - i ∧ σ = [some (.ref a), some .non, some vo, some (.ref t), some (.ref p), some (.int (sq d tb b i).1), some vr, t7, t8] ∧ Ex H H5 ∧ Dt H5 vr (dRow (sq d tb b i).2) ∧ H5 p = some (.lst (((lets d tb b i).map ch).map V.str)) ∧ ND eStd P w K H5 t ((List.range (i + 1)).map fun j => (sq d tb b j, V.int (j : Nat))),
    ⟨N, 0, vo, none, none, hN.n1, rfl, rfl, e4, k8.ex e4, upd_same, hnd.ex (Ex.new hp)⟩, ?_⟩
  rintro m σ H5 ⟨i, vr, t7, t8, hiN, rfl, rfl, e5, hvr, hpl, hT5⟩
  refine ⟨true, rfl, iT ⟨_, fun _ _ h => h, ?_⟩⟩
  have hs := hS i
  refine ⟨_, rfl, a, dx, fs, rfl, e5 _ _ h1, h7, _, rfl, _, rfl, a, M, vr, d, b, tb, ls, many, sq d tb b i, rfl, hC.ext e5, hvr, hc, hs, fun v1 H6 e6 hv1 => ?_⟩
  obtain ⟨aD, oD, xD, rfl, hD1, hD2, hD3⟩ := hv1.tupI
  cases hD3 with
  | cons g1 hD3 => cases hD3 with
  | cons g2 hD3 => cases hD3 with
  | cons g3 hD3 =>
  cases hD3
  obtain rfl := g1.strI
  obtain rfl := g2.intI
  rename_i vr2
  have g3 : Dt H6 vr2 (dRow (sq d tb b (i + 1)).2) := g3
  refine ⟨aD, _, rfl, .inl (.inr ⟨oD, hD1⟩), rfl, _, _, rfl, _, _, rfl, _, _, rfl, rfl, ?_⟩
  have hp6 := e6 _ _ hpl
  refine ⟨_, rfl, .inl ⟨rfl, _, sq_of hp6⟩, _, rfl, p, _, _, rfl, rfl, hp6, by rw [List.length_map, List.length_map, lets_length, sizeLine_eq]; omega, ?_⟩
  have eL : (((lets d tb b i).map ch).map V.str ++ [V.str (ch (cel tb b (sq d tb b i)).1)]) = ((lets d tb b (i + 1)).map ch).map V.str := by rw [lets_succ, List.map_append, List.map_append]; rfl
  rw [eL]
  have t6 : Tp H6 (upd H6 p (.lst (((lets d tb b (i + 1)).map ch).map V.str))) := Tp.upd (Sft.lst hp6)
  have e7 : Ex H (upd H6 p (.lst (((lets d tb b (i + 1)).map ch).map V.str))) := (e5.trans e6).mut np
  have hp7 : upd H6 p (.lst (((lets d tb b (i + 1)).map ch).map V.str)) p = some (.lst (((lets d tb b (i + 1)).map ch).map V.str)) := upd_same
  have hT7 := (hT5.ex e6).at (H' := upd H6 p (.lst (((lets d tb b (i + 1)).map ch).map V.str))) (upd_ne (Ne.symm npt)) t6
  have g3 := g3.tp t6
  obtain ⟨H7, eH7⟩ : ∃ H7, H7 = upd H6 p (.lst (((lets d tb b (i + 1)).map ch).map V.str)) := ⟨_, rfl⟩
  rw [← eH7] at e7 hp7 hT7 g3 ⊢
  have first : ∀ k, 1 ≤ k → k ≤ N → Stop d tb b k → k = N := fun k h1 h2 h3 => by
    rcases Nat.lt_or_eq_of_le h2 with h4 | h4
    · exact absurd h3 (hN.no k h1 h4)
    · exact h4
  refine ⟨_, rfl, _, rfl, eq_r g3.dp (k8.ex e7).dp ⟨_, rfl, iB (b := decide ((sq d tb b (i + 1)).2 = rgI d.st)) rfl (fun e => ?_) (fun e => ?_)⟩⟩
  · have eh := of_decide_eq_true e
    have eN := first (i + 1) (by omega) (by omega) (.inl eh)
    refine ⟨rfl, _, rfl, _, p, (lets d tb b (i + 1)).map ch, rfl, rfl, .inl (sq_of hp7), join_sz (by rw [lets_length]; omega), ?_⟩
    rw [join_ch]
    refine tupN_d (ds := [.str "round", .str (tx (lets d tb b (i + 1)))]) (.cons (.str _) (.cons (.str _) .nil)) (by show 2 ≤ 100; decide) fun v8 H8 e8 hv8 => ?_
    refine q v8 (-1) H8 (e7.trans e8) (.inl ⟨by rw [← eN]; exact eh, rfl⟩) ?_
    rw [← eN]
    exact hv8
  have eh := of_decide_eq_false e
  have hinj : ∀ i2 j, i2 < i + 1 → j < i + 1 → sq d tb b i2 = sq d tb b j → i2 = j := fun a1 a2 h1 h2 h3 => hN.inj (by omega) (by omega) h3
  have gst : ∀ {H8 : Hp}, Ex H7 H8 → DtAll H8 [V.int (nxs d tb b (sq d tb b i)).1, vr2] [.int (sq d tb b (i + 1)).1, dRow (sq d tb b (i + 1)).2] := fun e => .cons (.int _) (.cons (g3.ex e) .nil)
  refine ⟨_, rfl, _, rfl, tupN_d (gst (Ex.refl _)) (by show 2 ≤ 100; decide) fun v8 H8 e8 hv8 => ⟨_, rfl, ?_⟩⟩
  have hv8 : Dt H8 v8 (dStd (sq d tb b (i + 1))) := hv8
  refine in_n (hT7.ex e8).r hv8.ks.dp ⟨_, rfl, iB (b := (valV ((List.range (i + 1)).map fun j => (sq d tb b j, V.int (j : Nat))) (sq d tb b (i + 1))).isSome) rfl (fun e => ?_) (fun e => ?_)⟩
  · have hex : ∃ j, j < i + 1 ∧ sq d tb b j = sq d tb b (i + 1) := by
      by_cases h : ∃ j, j < i + 1 ∧ sq d tb b j = sq d tb b (i + 1)
      · exact h
      · rw [valV_prs fun j hj he => h ⟨j, hj, he⟩] at e
        cases e
    obtain ⟨j, hj, hje⟩ := hex
    have eN := first (i + 1) (by omega) (by omega) (.inr ⟨j, hj, hje⟩)
    have hval := valV_sq (g := fun j => V.int (j : Nat)) hinj hj
    rw [hje] at hval
    refine ⟨_, rfl, _, rfl, _, rfl, tupN_d (gst e8) (by show 2 ≤ 100; decide) fun v9 H9 e9 hv9 => ?_⟩
    have hv9 : Dt H9 v9 (dStd (sq d tb b (i + 1))) := hv9
    refine ix_n ((hT7.ex e8).ex e9).r hv9.ks.dp hval ?_
    have e89 := e8.trans e9
    have hp9 := e89 _ _ hp7
    have hll : (((lets d tb b (i + 1)).map ch).map V.str).length = i + 1 := by rw [List.length_map, List.length_map, lets_length]
    refine ⟨rfl, _, rfl, ⟨_, rfl, _, rfl, slc_l (sq_of hp9) fun p2 hp2 => ?_⟩⟩
    rw [cut_take (k := j) (xs := ((lets d tb b (i + 1)).map ch).map V.str) (by rw [hll]; omega), ← List.map_take, ← List.map_take]
    have e10 := Ex.new (o := HO.lst ((((lets d tb b (i + 1)).take j).map ch).map V.str)) hp2
    refine ⟨_, p2, ((lets d tb b (i + 1)).take j).map ch, rfl, rfl, .inl (sq_of upd_same), join_sz (by rw [List.length_take, lets_length]; omega), ?_⟩
    rw [join_ch]
    refine ⟨rfl, _, rfl, ⟨_, rfl, _, rfl, slc_l (sq_of (e10 _ _ hp9)) fun p3 hp3 => ?_⟩⟩
    rw [cut_drop (k := j) (xs := ((lets d tb b (i + 1)).map ch).map V.str) (by rw [hll]; omega), ← List.map_drop, ← List.map_drop]
    have e11 := Ex.new (o := HO.lst ((((lets d tb b (i + 1)).drop j).map ch).map V.str)) hp3
    refine ⟨_, p3, ((lets d tb b (i + 1)).drop j).map ch, rfl, rfl, .inl (sq_of upd_same), join_sz (by rw [List.length_drop, lets_length]; omega), ?_⟩
    rw [join_ch]
    refine tupN_d (ds := [.str "loop", .str (tx ((lets d tb b (i + 1)).take j)), .str (tx ((lets d tb b (i + 1)).drop j))]) (.cons (.str _) (.cons (.str _) (.cons (.str _) .nil))) (by show 3 ≤ 100; decide) fun v12 H12 e12 hv12 => ?_
    refine q v12 (j : Int) H12 ((((e7.trans e89).trans e10).trans e11).trans e12) (.inr ⟨by rw [← eN]; exact eh, j, by omega, by rw [← eN]; exact hje, rfl⟩) ?_
    unfold outD
    rw [if_neg (by omega), ← eN, Int.toNat_natCast]
    exact hv12
  · have hno : ∀ j, j < i + 1 → sq d tb b j ≠ sq d tb b (i + 1) := fun j hj he => by
      have hval := valV_sq (g := fun j => V.int (j : Nat)) hinj hj
      rw [he] at hval
      rw [hval] at e
      cases e
    have hiN2 : i + 1 < N := by
      rcases Nat.lt_or_eq_of_le (show i + 1 ≤ N by omega) with h4 | h4
      · exact h4
      · exfalso
        rcases hN.yes with h5 | ⟨j, hj, h5⟩
        · rw [← h4] at h5; exact eh h5
        · rw [← h4] at h5 hj; exact hno j hj h5
    have hnone : valV ((List.range (i + 1)).map fun j => (sq d tb b j, V.int (j : Nat))) (sq d tb b (i + 1)) = none := valV_prs hno
    refine ⟨_, rfl, len_l (sq_of (e8 _ _ hp7)) ⟨_, rfl, _, rfl, _, rfl, tupN_d (gst e8) (by show 2 ≤ 100; decide) fun v9 H9 e9 hv9 => ?_⟩⟩
    have hv9 : Dt H9 v9 (dStd (sq d tb b (i + 1))) := hv9
    refine set_n ((hT7.ex e8).ex e9) (by rw [List.length_map, List.length_range, sizeLine_eq]; omega) hv9.ks fun o9 hnd9 => ?_
    have t9 : Tp H9 (upd H9 t o9) := Tp.upd ((hT7.ex e8).ex e9).sft
    have e89 := e8.trans e9
    rw [putK_new _ hnone, List.length_map, List.length_map, lets_length] at hnd9
    refine ⟨N - (i + 1), by omega, i + 1, vr2, _, _, hiN2, rfl, rfl, (e7.trans e89).mut ht, (g3.ex e89).tp t9, by rw [upd_ne npt]; exact e89 _ _ hp7, ?_⟩
    rw [List.range_succ, List.map_append]
    exact hnd9
abbrev s_Conductor_as_book : Stmt := inClass (top 49) 3
abbrev N_Conductor_as_book : List Str := ["self", "entries", "memory", "row", "number", "letter", "after"]
theorem sc_Conductor_as_book : FnScope N_Conductor_as_book ["self"] (defScope s_Conductor_as_book) := ⟨rfl, rfl, rfl, by decide +kernel, rfl, by decide +kernel, by decide +kernel⟩
def sp_Conductor_as_book (K : PySem.W.Frag) (cl : Cls6) : Sp := fun vs H Q _ => ∃ (a M : Addr) (d : Wd) (b : Int) (tb : List (List (Nat × Nat))) (ls : List Nat) (many : Nat), vs = [.ref a] ∧ CondAt K cl H a M d b tb ∧ CdOk d b tb ls many ∧
  ∀ B H', Ex H H' → BookAt K cl H' B M d b tb many → Q (.ref B) H'
theorem ok_Conductor_as_book  (T : Txt K mg cl) (F : FnP K "as_book" "Conductor.as_book" s_Conductor_as_book [] f fd) (C_Book : CDef P w K mg base "Book" cl.B 10 ["self", "method", "entries"] [] ((sp_Book_init K cl))) : FnOk P w K mg base CX0 12 f fd ["self"] ((sp_Conductor_as_book K cl)) := by
  refine F.ok sc_Conductor_as_book (fun vs H Q E h => ?_) (fun cdv A outer s H vs Q E hr h => ?_)
  · unfold sp_Conductor_as_book at h; (repeat obtain ⟨_, h⟩ := h); subst_vars; rfl
  have hu := hr.units
  refine ⟨_, PSs.nox (pss_cons (ps_set (i := 1) sc_Conductor_as_book.nd rfl (Or.inl rfl) (pe_lst pa_nil))
      (pss_cons (ps_for PassesOwn.never rfl (pi_enumT (by rfl) T.b_enumerate (pa_cons (pe_fld (pv 0) rfl) pa_nil)) (pg_tup rfl (pgs_cons (pg_name (i := 2) sc_Conductor_as_book.nd rfl (Or.inl rfl)) (pgs_cons (pg_name (i := 3) sc_Conductor_as_book.nd rfl (Or.inl rfl)) pgs_nil))) (pss_one (ps_for PassesOwn.never rfl (pi_enumT (by rfl) T.b_enumerate (pa_cons (pv 3) pa_nil)) (pg_tup rfl (pgs_cons (pg_name (i := 4) sc_Conductor_as_book.nd rfl (Or.inl rfl)) (pgs_cons (pg_tup rfl (pgs_cons (pg_name (i := 5) sc_Conductor_as_book.nd rfl (Or.inl rfl)) (pgs_cons (pg_name (i := 6) sc_Conductor_as_book.nd rfl (Or.inl rfl)) pgs_nil))) pgs_nil))) (pss_one (ps_expr (pe_bm PySem.F.plainAttrs_list PySem.F.slot_list_append PySem.F.type_list_append mt_append (pv 1) (pa_cons (pe_tupN (pa_cons (pv 2) (pa_cons (pe_tupN (pa_cons (pe_tupN (pa_cons (pe_fld (pv 0) rfl) (pa_cons (pe_tupN (pa_cons (pe_op (op_addA (K := K)) (pv 4) pe_int) pa_nil)) pa_nil))) pa_nil)) (pa_cons (pv 5) (pa_cons (pv 6) pa_nil))))) pa_nil)))))))
      (pss_one (ps_ret (pe_c C_Book hr (pa_cons (pe_fld (pv 0) rfl) (pa_cons (pe_callTy (call_tupN (K := K)) (by rfl) T.b_tuple (by decide +kernel) (pa_cons (pv 1) pa_nil)) pa_nil))))))), ?_⟩
  obtain ⟨a, M, d, b, tb, ls, many, rfl, hC, hc, q⟩ := h
  have h3s := hc.w.s3
  have h8 := hc.w.s8
  have hm4 := hc.m4
  have htl := hc.t.len
  obtain ⟨dx, fs, vt, h1, h2, h3, h4, h5, h6, h7, _⟩ := hC.ex
  obtain ⟨aT, oT, xT, rfl, hT1, hT2, hT3⟩ := h6.tupI
  refine ⟨by show 0 ≤ sizeLine; decide, fun p hp => ?_⟩
  have e1 : Ex H (upd H p (.lst [])) := Ex.new hp
  refine ⟨_, rfl, a, cl.C, dx, fs, _, rfl, e1 _ _ h1, T.c_C, T.n_C_table, h5, aT, xT, rfl, .inl (.inr ⟨oT, e1 _ _ hT1⟩), ?_⟩
  have hxT : xT.length = many := by have := hT3.len; rw [List.length_map] at this; omega
  refine for_it (walk_enumT (xs := xT)) (fun i σ H2 => ∃ t1 t2 t3 t4 t5, σ = [some (.ref a), some (.ref p), t1, t2, t3, t4, t5] ∧ Ex H H2 ∧ DL H2 p ((ents tb d.st i).map (dEnt b)))
    ⟨none, none, none, none, none, rfl, e1, [], upd_same, .nil⟩ (fun i σ H2 _ ⟨_, _, _, _, _, _, e, _⟩ => .inl (.inr ⟨oT, e _ _ hT1⟩)) ?_ ?_
  · rintro m y σ H2 H3 hi ⟨t1, t2, t3, t4, t5, rfl, e2, hP⟩ ⟨T0, u1, u2, rfl, hT0, rfl, hu1, hu2⟩
    cases hu1
    have e3 : Ex H2 (upd H2 T0 (.tup [.int (m : Nat), u2])) := Ex.new hT0
    obtain ⟨dd, hd, hyd⟩ := (hT3.ex (e2.trans e3)).get hu2
    obtain ⟨row, hr, rfl⟩ := mapD_get hd
    have hrm := List.mem_of_getElem? hr
    have hrl := hc.t.row row hrm
    refine ⟨T0, _, rfl, st_of upd_same, rfl, _, _, rfl, _, _, rfl, rfl, ?_⟩
    obtain ⟨aR, oR, xR, rfl, hR1, hR2, hR3⟩ := hyd.tupI
    have hxR : xR.length = d.st := by have := hR3.len; rw [List.length_map] at this; omega
    have e23 := e2.trans e3
    have hRow : ∀ H4, Ex (upd H2 T0 (.tup [.int (m : Nat), .ref aR])) H4 → SqT K H4 aR xR := fun H4 e => .inl (.inr ⟨oR, e _ _ hR1⟩)
    refine ⟨_, rfl, aR, xR, rfl, hRow _ (Ex.refl _), ?_⟩
    have hP3 := hP.ex e3
    obtain ⟨H3, eH3⟩ : ∃ H3, H3 = upd H2 T0 (.tup [.int (m : Nat), .ref aR]) := ⟨_, rfl⟩
    rw [← eH3] at e3 e23 hRow hR3 hP3 ⊢
    refine for_it (walk_enumT (xs := xR)) (fun j σ H4 => ∃ t3 t4 t5, σ = [some (.ref a), some (.ref p), some (.int (m : Nat)), some (.ref aR), t3, t4, t5] ∧ Ex H H4 ∧ Tp H3 H4 ∧ SqT K H4 aR xR ∧ DL H4 p ((ents tb d.st m ++ entM tb j m).map (dEnt b)))
      ⟨t3, t4, t5, rfl, e23, Tp.refl _, hRow _ (Ex.refl _), by simpa [entM] using hP3⟩ (fun i σ H2 _ ⟨_, _, _, _, _, _, h, _⟩ => h) ?_ ?_
    · rintro j z σ H4 H5 hj ⟨s3, s4, s5, rfl, e4, t4', hsq, hP4⟩ ⟨T1, w1, w2, rfl, hT1', rfl, hw1, hw2⟩
      cases hw1
      have e5 : Ex H4 (upd H4 T1 (.tup [.int (j : Nat), w2])) := Ex.new hT1'
      obtain ⟨dz, hdz, hzd⟩ := ((hR3.tp t4').ex e5).get hw2
      obtain ⟨c, hcj, rfl⟩ := mapD_get hdz
      obtain ⟨aC, oC, xC, rfl, hC1, hC2, hC3⟩ := hzd.tupI
      cases hC3 with
      | cons g1 hC3 => cases hC3 with
      | cons g2 hC3 =>
      cases hC3
      obtain rfl := g1.strI
      obtain rfl := g2.intI
      refine ⟨T1, _, rfl, st_of upd_same, rfl, _, _, rfl, _, _, rfl, ⟨aC, _, rfl, .inl (.inr ⟨oC, hC1⟩), rfl, _, _, rfl, _, _, rfl, rfl, rfl, ?_⟩⟩
      have e45 := e4.trans e5
      have hcell : cell tb m j = c := by
        unfold cell
        rw [List.getD_eq_getElem?_getD, List.getD_eq_getElem?_getD, hr]
        show (row[j]?).getD (0, 0) = c
        rw [hcj]; rfl
      refine ⟨_, rfl, .inl ⟨rfl, (hP4.ex e5).sq⟩, _, rfl, _, rfl, a, cl.C, dx, fs, _, rfl, e45 _ _ h1, T.c_C, T.n_C_bell, h4, _, rfl, add_i ?_⟩
      refine tupN_d (ds := [.int ((j : Int) + 1)]) (.cons (.int _) .nil) (by show 1 ≤ 100; decide) fun v1 G1 a1 hv1 => ?_
      refine tupN_d (ds := [.int b, dRow [(j : Int) + 1]]) (.cons (.int _) (.cons hv1 .nil)) (by show 2 ≤ 100; decide) fun v2 G2 a2 hv2 => ?_
      refine tupN_d (ds := [.tuple [.int b, dRow [(j : Int) + 1]]]) (.cons hv2 .nil) (by show 1 ≤ 100; decide) fun v3 G3 a3 hv3 => ⟨_, rfl, _, rfl, ?_⟩
      refine tupN_d (ds := [.int (m : Nat), .tuple [.tuple [.int b, dRow [(j : Int) + 1]]], .str (ch c.1), .int (c.2 : Nat)]) (.cons (.int _) (.cons hv3 (.cons (.str _) (.cons (.int _) .nil)))) (by show 4 ≤ 100; decide) fun v4 G4 a4 hv4 => ?_
      have aA := ((a1.trans a2).trans a3).trans a4
      have hv4 : Dt G4 v4 (dEnt b (entAt tb m j)) := by unfold entAt; rw [hcell]; exact hv4
      refine DL.app ((hP4.ex e5).ex aA) (e45.trans aA) hp hv4 (by rw [List.length_map, List.length_append, ents_length]; simp [entM]; have : m * d.st ≤ 4 * 8 := Nat.mul_le_mul (by omega) h8; omega) fun G5 a5 hP5 t5 k5 => ?_
      have tA : Tp H4 G5 := (Tp.of (e5.trans aA)).trans t5
      refine ⟨_, _, _, rfl, a5, t4'.trans tA, tp_t tA hsq, ?_⟩
      rw [entM_succ, ← List.append_assoc, List.map_append]
      exact hP5
    · rintro σ H4 ⟨s3, s4, s5, rfl, e4, _, _, hP4⟩
      rw [hxR] at hP4
      exact ⟨_, _, _, _, _, rfl, e4, by rw [ents_succ]; exact hP4⟩
  · rintro σ H2 ⟨t1, t2, t3, t4, t5, rfl, e2, ⟨vs, hvs, hvd⟩⟩
    rw [hxT] at hvd
    refine ⟨_, rfl, a, cl.C, dx, fs, _, rfl, e2 _ _ h1, T.c_C, T.n_C_method, h2, _, rfl, tup_d (sq_of hvs) hvd fun v3 H3 e3 hv3 => ?_⟩
    intro B bx nB nbx neB
    have hM3 := h3.ext (e2.trans e3)
    have e4 : Ex H3 (upd (upd H3 bx (.own B)) B (.ins cl.B bx [])) := fun c o hco => by
      rw [upd_ne (ne_of_none hco nB), upd_ne (ne_of_none hco nbx)]; exact hco
    have neBM : B ≠ M := fun z => by
      obtain ⟨_, _, _, _, _, _, _, _, _, _, _, _, hz, _⟩ := hM3.ex
      rw [z, hz] at nB; cases nB
    refine ⟨B, bx, M, v3, d, b, tb, many, rfl, upd_same, hM3.ext e4, neBM, hv3.ex e4, fun e he => ?_, hm4, h8, by omega, fun H5 b5 hB5 => ⟨rfl, ?_⟩⟩
    · obtain ⟨m, j, hm, hj, rfl⟩ := mem_ents.mp he
      have hmt : m < tb.length := by omega
      have g1 := List.getElem?_eq_getElem hmt
      have hrm := List.mem_of_getElem? g1
      have hrl := hc.t.row _ hrm
      have hcell : cell tb m j ∈ tb[m]'hmt := by
        unfold cell
        rw [List.getD_eq_getElem?_getD, List.getD_eq_getElem?_getD, g1]
        show ((tb[m]'hmt)[j]?).getD (0, 0) ∈ _
        rw [List.getElem?_eq_getElem (by omega)]
        exact List.getElem_mem _
      obtain ⟨hc1, hc2⟩ := hc.t.cell _ hrm _ hcell
      exact ⟨by show m ≤ 29; omega, hj, hc.l _ hc1, by show (cell tb m j).2 ≤ 29; omega, hc.b1, hc.b2⟩
    · have e5 : Ex H3 H5 := b5.ex e4 nB
      exact q B H5 ((e2.trans e3).trans e5) (hB5 (hM3.ext e5))
end
end L2
set_option Elab.async false
set_option linter.all false
set_option maxRecDepth 100000
set_option maxHeartbeats 4000000
namespace L2
open PySem PySem.Spec PyProof.Rows Evl
section
variable {P : Program} {w : World} {K : PySem.W.Frag} {mg : Str → Option Value} {base : Heap} {f : Addr} {fd : FuncData} {cl : Cls6}
abbrev s_Book_fan : Stmt := inClass (top 44) 6
abbrev N_Book_fan : List Str := ["self", "row", "states", "found", "state", "letter", "goal", "there"]
theorem sc_Book_fan : FnScope N_Book_fan ["self", "row", "states"] (defScope s_Book_fan) := ⟨rfl, rfl, rfl, by decide +kernel, rfl, by decide +kernel, by decide +kernel⟩
/-- the fan of a standing: its way, if any -/
def FanAt (d : Wd) (tb : List (List (Nat × Nat))) (b : Int) (s : Std) (H : Hp) (p : Addr) : Prop := (wys d tb b s = [] ∧ H p = some (.dK [])) ∨ ∃ g v, wys d tb b s = [g] ∧ H p = some (.dK [(.inr (ch g.1), v)]) ∧ Dt H v (.tuple [dRow g.2.2, dRow [g.2.1]])
def sp_Book_fan (K : PySem.W.Frag) (cl : Cls6) : Sp := fun vs H Q _ => ∃ (a M : Addr) (x y : V) (d : Wd) (b : Int) (tb : List (List (Nat × Nat))) (ls : List Nat) (many : Nat) (s : Std), vs = [.ref a, x, y] ∧ BookAt K cl H a M d b tb many ∧ Dt H x (dRow s.2) ∧ Dt H y (dRow [s.1]) ∧ CdOk d b tb ls many ∧ SKk d many s ∧
  ∀ p H', Ex H H' → FanAt d tb b s H' p → Q (.ref p) H'
theorem ok_Book_fan  (T : Txt K mg cl) (F : FnP K "fan" "Book.fan" s_Book_fan [] f fd) (M_Book_ways_from : MDef P w K mg base cl.B "ways_from" 2 ["self", "standing"] [] ((sp_Book_ways_from K cl))) : FnOk P w K mg base CX0 3 f fd ["self", "row", "states"] ((sp_Book_fan K cl)) := by
  refine F.ok sc_Book_fan (fun vs H Q E h => ?_) (fun cdv A outer s H vs Q E hr h => ?_)
  · unfold sp_Book_fan at h; (repeat obtain ⟨_, h⟩ := h); subst_vars; rfl
  have hu := hr.units
  refine ⟨_, PSs.nox (pss_cons (ps_set (i := 3) sc_Book_fan.nd rfl (Or.inl rfl) pe_dnewK)
      (pss_cons (ps_for PassesOwn.never rfl (pi_tup (pv 2)) (pg_name (i := 4) sc_Book_fan.nd rfl (Or.inl rfl)) (pss_one (ps_for PassesOwn.never rfl (pi_tup (pe_md M_Book_ways_from hr (pv 0) (pa_cons (pe_tupN (pa_cons (pv 4) (pa_cons (pv 1) pa_nil))) pa_nil))) (pg_tup rfl (pgs_cons (pg_name (i := 5) sc_Book_fan.nd rfl (Or.inl rfl)) (pgs_cons (pg_name (i := 6) sc_Book_fan.nd rfl (Or.inl rfl)) pgs_nil))) (pss_cons (ps_set (i := 7) sc_Book_fan.nd rfl (Or.inl rfl) (pe_bn (P := P) (w := w) (K := K) PySem.F.plainAttrs_dict PySem.F.slot_dict_get PySem.F.type_dict_get (mt_get2 (P := P) (w := w) (K := K) hu) (pv 3) (pa_cons (pv 5) (pa_cons (pe_tupN (pa_cons (pe_ix (ix_A (P := P) (w := w) (K := K) hu) (pv 6) pe_int (fun _ _ => rfl)) (pa_cons (pe_tupN pa_nil) pa_nil))) pa_nil))))
      (pss_one (ps_if (pt_cmpR (op_notInA (P := P) (w := w) (K := K) hu) (pe_ix (ix_A (P := P) (w := w) (K := K) hu) (pv 6) pe_int (fun _ _ => rfl)) (pe_ix (ix_A (P := P) (w := w) (K := K) hu) (pv 7) pe_int (fun _ _ => rfl)) (by rfl)) (pss_one (ps_asg (pe_tupN (pa_cons (pe_ix (ix_A (P := P) (w := w) (K := K) hu) (pv 6) pe_int (fun _ _ => rfl)) (pa_cons (pe_callTy (call_tupN (K := K)) (by rfl) T.b_tuple (by decide +kernel) (pa_cons (pe_callB cr_sort1 (by rfl) T.b_sorted (by decide +kernel) (pa_cons (pe_lst (StX.pa_star (pe_ix (ix_A (P := P) (w := w) (K := K) hu) (pv 7) pe_int (fun _ _ => rfl)) (pa_cons (pe_ix (ix_A (P := P) (w := w) (K := K) hu) (pv 6) pe_int (fun _ _ => rfl)) pa_nil))) pa_nil)) pa_nil)) pa_nil))) (pg_sub (pv 3) (pv 5) (set_A (P := P) (w := w) (K := K) hu)))) pss_nil))))))
      (pss_one (ps_ret (pv 3))))), ?_⟩
  obtain ⟨a, M, x, y, d, b, tb, ls, many, s, rfl, hB, hx, hy, hc, hs, q⟩ := h
  have h8 := hc.w.s8
  obtain ⟨dx, fs, ve, q0, kvs, h1, h2, h3, h4, h5, h6, h7, h9, h10, _⟩ := hB.ex
  obtain ⟨aY, oY, rfl, hY1, hY2⟩ := hy.row
  intro p hp
  have e1 : Ex H (upd H p (.dK [])) := Ex.new hp
  refine ⟨_, rfl, aY, rfl, ⟨_, .inl (.inr ⟨oY, e1 _ _ hY1⟩)⟩, ?_⟩
  refine for_it (walk_tup (xs := ([s.1] : List Int).map V.int)) (fun i σ H2 => ∃ t4 t5 t6 t7, σ = [some (.ref a), some x, some (.ref aY), some (.ref p), t4, t5, t6, t7] ∧ Ex H H2 ∧ ((i = 0 ∧ H2 p = some (.dK [])) ∨ (i = 1 ∧ FanAt d tb b s H2 p)))
    ⟨none, none, none, none, rfl, e1, .inl ⟨rfl, upd_same⟩⟩ (fun i σ H2 _ ⟨_, _, _, _, _, e, _⟩ => .inl (.inr ⟨oY, e _ _ hY1⟩)) ?_ ?_
  · rintro i z σ H2 H3 hi ⟨t4, t5, t6, t7, rfl, e2, hP⟩ ⟨rfl, hz⟩
    obtain rfl : i = 0 := by simp at hi; omega
    obtain rfl : V.int s.1 = z := by simpa using hz
    have hP : H3 p = some (.dK []) := by rcases hP with ⟨_, h⟩ | ⟨h, _⟩ <;> first | exact h | omega
    refine ⟨_, rfl, a, dx, fs, rfl, e2 _ _ h1, h10, _, rfl, _, rfl, tupN_d (ds := [.int s.1, dRow s.2]) (.cons (.int _) (.cons (hx.ex e2) .nil)) (by show 2 ≤ 100; decide) fun v1 H4 e4 hv1 => ?_⟩
    have e24 := e2.trans e4
    refine ⟨a, M, v1, d, b, tb, ls, many, s, rfl, hB.ext e24, hv1, hc.t, hc.l, h8, hc.b1, hc.b2, hs, fun v5 H5 e5 hv5 => ?_⟩
    have e25 := e24.trans e5
    have hP5 : H5 p = some (.dK []) := (e4.trans e5) _ _ hP
    obtain ⟨aW, oW, xW, rfl, hW1, hW2, hW3⟩ := hv5.tupI
    refine ⟨aW, rfl, ⟨_, .inl (.inr ⟨oW, hW1⟩)⟩, ?_⟩
    rcases wys_cases (tb := tb) (b := b) hs with ⟨hm, hw⟩ | ⟨hso, hw⟩
    · rw [hw] at hW3
      cases hW3
      refine for_it (walk_tup (xs := ([] : List V))) (fun i σ H2 => i = 0 ∧ H2 = H5 ∧ σ = [some (.ref a), some x, some (.ref aY), some (.ref p), some (.int s.1), t5, t6, t7]) ⟨rfl, rfl, rfl⟩ (fun i σ H2 _ h => by rw [h.2.1]; exact .inl (.inr ⟨oW, hW1⟩)) (fun i x σ H H' hi => by simp at hi) ?_
      rintro σ H2 ⟨_, rfl, rfl⟩
      exact ⟨_, _, _, _, rfl, e25, .inr ⟨rfl, .inl ⟨hw, hP5⟩⟩⟩
    · rw [hw] at hW3
      cases hW3 with
      | cons hg hW3 =>
      cases hW3
      rename_i vg
      refine for_it (walk_tup (xs := [vg])) (fun i σ H2 => ∃ t5 t6 t7, σ = [some (.ref a), some x, some (.ref aY), some (.ref p), some (.int s.1), t5, t6, t7] ∧ Ex H H2 ∧ Tp H5 H2 ∧ ((i = 0 ∧ H2 p = some (.dK [])) ∨ (i = 1 ∧ FanAt d tb b s H2 p)))
        ⟨t5, t6, t7, rfl, e25, Tp.refl _, .inl ⟨rfl, hP5⟩⟩ (fun i σ H2 _ ⟨_, _, _, _, _, t, _⟩ => .inl (.inr ⟨oW, t.2 _ _ _ hW1⟩)) ?_ ?_
      · rintro i z2 σ H6 H7 hi2 ⟨s5, s6, s7, rfl, e6, t6', hP6⟩ ⟨rfl, hz2⟩
        obtain rfl : i = 0 := by simp at hi2; omega
        obtain rfl : vg = z2 := by simpa using hz2
        have hP6 : H7 p = some (.dK []) := by rcases hP6 with ⟨_, h⟩ | ⟨h, _⟩ <;> first | exact h | omega
        obtain ⟨aG, oG, xG, rfl, hG1, hG2, hG3⟩ := (hg.tp t6').tupI
        cases hG3 with
        | cons g1 hG3 => cases hG3 with
        | cons g2 hG3 =>
        cases hG3
        obtain rfl := g1.strI
        rename_i vs0
        refine ⟨aG, _, rfl, .inl (.inr ⟨oG, hG1⟩), rfl, _, _, rfl, _, _, rfl, rfl, ?_⟩
        refine ⟨_, rfl, ty_k (.inl hP6), _, rfl, _, rfl, ix_d g2 (i := 1) (d := dRow (nxt d tb b s).2.2) rfl fun v8 hv8 => ?_⟩
        refine tupN_d (ds := []) .nil (by show 0 ≤ 100; decide) fun v9 H9 e9 hv9 => ?_
        refine tupN_d (ds := [dRow (nxt d tb b s).2.2, .tuple []]) (.cons (hv8.ex e9) (.cons hv9 .nil)) (by show 2 ≤ 100; decide) fun v10 H10 e10 hv10 => ?_
        have e910 := e9.trans e10
        refine get_k (k := .inr (ch (nxt d tb b s).1)) (.inl (e910 _ _ hP6)) ?_
        show gName 7 v10 _ _ _
        refine ⟨_, rfl, ix_d (g2.ex e910) (i := 0) (d := .int (nxt d tb b s).2.1) rfl fun v11 hv11 => ⟨_, rfl, ix_d hv10 (i := 1) (d := dRow []) rfl fun v12 hv12 => ?_⟩⟩
        rw [hv11.intI]
        refine ni_r (r := []) hv12.dp ⟨_, rfl, iP rfl ?_⟩
        refine ⟨_, rfl, ix_d (g2.ex e910) (i := 1) (d := dRow (nxt d tb b s).2.2) rfl fun v13 hv13 => ⟨_, rfl, ix_d hv10 (i := 1) (d := dRow []) rfl fun v14 hv14 => ?_⟩⟩
        obtain ⟨a14, o14, rfl, ha14, _⟩ := hv14.row
        refine ⟨a14, _, rfl, .inl (.inl (.inr ⟨o14, ha14⟩)), _, rfl, ix_d (g2.ex e910) (i := 0) (d := .int (nxt d tb b s).2.1) rfl fun v15 hv15 => ?_⟩
        rw [hv15.intI]
        refine ⟨by show 1 ≤ sizeLine; decide, fun l hl => ⟨l, _, rfl, sq_of upd_same, by show 1 < 2; decide, fun l2 hl2 => ?_⟩⟩
        have e12 := (Ex.new (o := HO.lst [V.int (nxt d tb b s).2.1]) hl).trans (Ex.new (o := HO.lst [V.int (nxt d tb b s).2.1]) hl2)
        refine tup_l (sq_of upd_same) fun l3 o3 hl3 ho3 => ?_
        have e13 := e12.trans (Ex.new (o := .frz o3 (.tup [V.int (nxt d tb b s).2.1])) hl3)
        have hrow : Dt (upd (upd (upd H10 l (.lst [V.int (nxt d tb b s).2.1])) l2 (.lst [V.int (nxt d tb b s).2.1])) l3 (.frz o3 (.tup [V.int (nxt d tb b s).2.1]))) (.ref l3) (dRow [(nxt d tb b s).2.1]) := .ofRow (r := [(nxt d tb b s).2.1]) upd_same ho3
        refine tupN_d (ds := [dRow (nxt d tb b s).2.2, dRow [(nxt d tb b s).2.1]]) (.cons (hv13.ex e13) (.cons hrow .nil)) (by show 2 ≤ 100; decide) fun v16 H16 e16 hv16 => ?_
        have eA := (e910.trans e13).trans e16
        have hPA := eA _ _ hP6
        refine ⟨_, rfl, _, rfl, set_k (k := .inr (ch (nxt d tb b s).1)) hPA (by show 0 < sizeLine; decide) ?_⟩
        have tp : Tp H16 (upd H16 p (.dK (putK [] (.inr (ch (nxt d tb b s).1)) v16))) := Tp.upd (by rw [hPA]; trivial)
        exact ⟨_, _, _, rfl, (e6.trans eA).mut hp, (t6'.trans (Tp.of eA)).trans tp, .inr ⟨rfl, .inr ⟨nxt d tb b s, v16, hw, upd_same, hv16.tp tp⟩⟩⟩
      · rintro σ H2 ⟨s5, s6, s7, rfl, e6, t6', hP6⟩
        exact ⟨_, _, _, _, rfl, e6, .inr ⟨rfl, by rcases hP6 with ⟨h, _⟩ | ⟨_, h⟩ <;> first | exact h | (simp at h)⟩⟩
  · rintro σ H2 ⟨t4, t5, t6, t7, rfl, e2, hP⟩
    exact ⟨_, rfl, q p H2 e2 (by rcases hP with ⟨h, _⟩ | ⟨_, h⟩ <;> first | exact h | (simp at h))⟩
abbrev s_Book_bears : Stmt := inClass (top 44) 7
abbrev N_Book_bears : List Str := ["self", "calling", "row", "states", "letter", "found"]
theorem sc_Book_bears : FnScope N_Book_bears ["self", "calling"] (defScope s_Book_bears) := ⟨rfl, rfl, rfl, by decide +kernel, rfl, by decide +kernel, by decide +kernel⟩
def sp_Book_bears (K : PySem.W.Frag) (cl : Cls6) : Sp := fun vs H Q _ => ∃ (a M : Addr) (d : Wd) (b : Int) (tb : List (List (Nat × Nat))) (ls : List Nat) (many : Nat) (us : List Nat), vs = [.ref a, .str (tx us)] ∧ BookAt K cl H a M d b tb many ∧ CdOk d b tb ls many ∧ (∀ c ∈ us, c ∈ lts d) ∧ us.length ≤ 400 ∧
  ∀ H', Ex H H' → Q (.bl (bearF d tb b (0, rgI d.st) us)) H'
theorem ok_Book_bears  (T : Txt K mg cl) (F : FnP K "bears" "Book.bears" s_Book_bears [] f fd) (G_check_calling : GDef P w K mg base "check_calling" 1 ["method", "calling"] [] ((sp_check_calling K cl))) (M_Book_fan : MDef P w K mg base cl.B "fan" 3 ["self", "row", "states"] [] ((sp_Book_fan K cl))) : FnOk P w K mg base CX0 4 f fd ["self", "calling"] ((sp_Book_bears K cl)) := by
  refine F.ok sc_Book_bears (fun vs H Q E h => ?_) (fun cdv A outer s H vs Q E hr h => ?_)
  · unfold sp_Book_bears at h; (repeat obtain ⟨_, h⟩ := h); subst_vars; rfl
  have hu := hr.units
  refine ⟨_, PSs.nox (pss_cons (ps_expr (pe_g G_check_calling hr (pa_cons (pe_fld (pv 0) rfl) (pa_cons (pv 1) pa_nil))))
      (pss_cons (ps_set (i := 2) sc_Book_bears.nd rfl (Or.inl rfl) (pe_fld (pe_fld (pv 0) rfl) rfl))
      (pss_cons (ps_set (i := 3) sc_Book_bears.nd rfl (Or.inl rfl) (pe_tupN (pa_cons pe_int pa_nil)))
      (pss_cons (ps_for PassesOwn.never rfl (pi_str (pv 1)) (pg_name (i := 4) sc_Book_bears.nd rfl (Or.inl rfl)) (pss_cons (ps_set (i := 5) sc_Book_bears.nd rfl (Or.inl rfl) (pe_md M_Book_fan hr (pv 0) (pa_cons (pv 2) (pa_cons (pv 3) pa_nil))))
      (pss_cons (ps_if (pt_cmpR (op_notInA (P := P) (w := w) (K := K) hu) (pv 4) (pv 5) (by rfl)) (pss_one (ps_ret pe_bl)) pss_nil)
      (pss_one (ps_asg (pe_ix (ix_A (P := P) (w := w) (K := K) hu) (pv 5) (pv 4) (fun _ _ => rfl)) (pg_tup rfl (pgs_cons (pg_name (i := 2) sc_Book_bears.nd rfl (Or.inl rfl)) (pgs_cons (pg_name (i := 3) sc_Book_bears.nd rfl (Or.inl rfl)) pgs_nil))))))))
      (pss_one (ps_ret pe_bl)))))), ?_⟩
  obtain ⟨a, M, d, b, tb, ls, many, us, rfl, hB, hc, hus, hl, q⟩ := h
  have h8 := hc.w.s8
  have hm1 := hc.m1
  obtain ⟨dx, fs, ve, q0, kvs, h1, h2, h3, h4, h5, h6, h7, h9, h10, h11, h12, h13, h14⟩ := hB.ex
  obtain ⟨dy, gs, vp, vc, vo, ql, qm, qb, kl, kb, ll, lb, g1, g2, g3, g4, g5, g6, g7, g8, _⟩ := h3.ex
  refine ⟨_, rfl, a, cl.B, dx, fs, _, rfl, h1, T.c_B, T.n_B_method, h2, _, rfl, M, d, us, rfl, h3, hus, hl, fun H1 e1 => ?_⟩
  refine ⟨_, rfl, a, cl.B, dx, fs, _, rfl, e1 _ _ h1, T.c_B, T.n_B_method, h2, M, cl.M, dy, gs, _, rfl, e1 _ _ g1, T.c_M, T.n_M_opening, g7, ?_⟩
  refine tupN_d (ds := [.int 0]) (.cons (.int _) .nil) (by show 1 ≤ 100; decide) fun v2 H2 e2 hv2 => ?_
  refine ⟨_, rfl, tx us, rfl, ?_⟩
  refine for_it (walk_str (z := tx us)) (fun i σ H3 => ∃ (s : Std) (vr vs : V) (t4 t5 : Option V), σ = [some (.ref a), some (.str (tx us)), some vr, some vs, t4, t5] ∧ Ex H H3 ∧ SKk d many s ∧ Dt H3 vr (dRow s.2) ∧ Dt H3 vs (dRow [s.1]) ∧ bearF d tb b (0, rgI d.st) us = bearF d tb b s (us.drop i))
    ⟨(0, rgI d.st), vo, v2, none, none, rfl, e1.trans e2, ⟨.inr ⟨by show (0 : Int) ≤ 0; decide, by show (0 : Int) < many; omega⟩, rgI_pm d.st⟩, (g8.ex e1).ex e2, hv2, rfl⟩ (fun _ _ _ _ _ => trivial) ?_ ?_
  · rintro i y σ H3 H4 hi ⟨s, vr, vs, t4, t5, rfl, e3, hs, hr, hst, hbe⟩ ⟨rfl, c, hcc, rfl⟩
    have hci : us[i]? = some c := by simpa [tx] using hcc
    have hdrop : us.drop i = c :: us.drop (i + 1) := by
      obtain ⟨hlt, e⟩ := List.getElem?_eq_some_iff.mp hci
      rw [List.drop_eq_getElem_cons hlt, e]
    rw [hdrop] at hbe
    refine ⟨_, rfl, a, dx, fs, rfl, e3 _ _ h1, h13, _, rfl, _, rfl, a, M, vr, vs, d, b, tb, ls, many, s, rfl, hB.ext e3, hr, hst, hc, hs, fun p H5 e5 hF => ?_⟩
    rcases hF with ⟨hw, hp⟩ | ⟨g, v, hw, hp, hv⟩
    · refine ⟨_, rfl, _, rfl, ni_k (k := .inr (ch c)) (.inl hp) ⟨_, rfl, iP rfl ?_⟩⟩
      have hf : bearF d tb b (0, rgI d.st) us = false := by
        rw [hbe]
        show (match wys d tb b s with | [] => false | g :: _ => if c = g.1 then bearF d tb b g.2 (us.drop (i + 1)) else false) = false
        rw [hw]
      have := q H5 (e3.trans e5)
      rw [hf] at this
      exact this
    · have hbe2 : bearF d tb b (0, rgI d.st) us = if c = g.1 then bearF d tb b g.2 (us.drop (i + 1)) else false := by
        rw [hbe]
        show (match wys d tb b s with | [] => false | g :: _ => if c = g.1 then bearF d tb b g.2 (us.drop (i + 1)) else false) = _
        rw [hw]
      by_cases ec : c = g.1
      · subst ec
        rw [if_pos rfl] at hbe2
        refine ⟨_, rfl, _, rfl, ni_k (k := .inr (ch g.1)) (.inl hp) ⟨_, rfl, iN (by rw [valV_pos rfl]; rfl) ?_⟩⟩
        refine ⟨_, rfl, _, rfl, ix_k (k := .inr (ch g.1)) (.inl hp) (valV_pos rfl) ?_⟩
        obtain ⟨aG, oG, xG, rfl, hG1, hG2, hG3⟩ := hv.tupI
        cases hG3 with
        | cons k1 hG3 => cases hG3 with
        | cons k2 hG3 =>
        cases hG3
        refine ⟨aG, _, rfl, .inl (.inr ⟨oG, hG1⟩), rfl, _, _, rfl, _, _, rfl, rfl, ?_⟩
        have hgs : SKk d many g.2 := by
          rcases wys_cases (tb := tb) (b := b) hs with ⟨_, hw2⟩ | ⟨hso, hw2⟩
          · rw [hw2] at hw; cases hw
          · rw [hw2] at hw
            cases hw
            exact nxt_ok hc.t hc.b1 hc.b2 hso
        exact ⟨g.2, _, _, _, _, rfl, e3.trans e5, hgs, k1, k2, hbe2⟩
      · rw [if_neg ec] at hbe2
        have hne : ¬ (Sum.inr (ch g.1) : Key) = .inr (ch c) := fun z => ec (ch_inj (Sum.inr.inj z)).symm
        refine ⟨_, rfl, _, rfl, ni_k (k := .inr (ch c)) (.inl hp) ⟨_, rfl, iP (by rw [valV_neg hne]; rfl) ?_⟩⟩
        have := q H5 (e3.trans e5)
        rw [hbe2] at this
        exact this
  · rintro σ H3 ⟨s, vr, vs, t4, t5, rfl, e3, hs, hr, hst, hbe⟩
    have := q H3 e3
    rw [hbe, List.drop_of_length_le (by simp [tx])] at this
    exact this
end
end L2
set_option Elab.async false
set_option linter.all false
set_option maxRecDepth 100000
set_option maxHeartbeats 4000000
namespace L2
open PySem PySem.Spec PyProof.Rows Evl
/-- pairs of a dict, by their numbers -/
def TabS (R : Nat → V → Prop) (f : Nat → Std) (kvs : List (Std × V)) (n : Nat) : Prop := kvs.length = n ∧ ∀ k, k < n → ∃ v, kvs[k]? = some (f k, v) ∧ R k v
theorem TabS.imp {R R' : Nat → V → Prop} {f : Nat → Std} {kvs : List (Std × V)} {n : Nat} (h : TabS R f kvs n) (g : ∀ k v, R k v → R' k v) : TabS R' f kvs n := ⟨h.1, fun k hk => by obtain ⟨v, h1, h2⟩ := h.2 k hk; exact ⟨v, h1, g k v h2⟩⟩
theorem TabS.no {R : Nat → V → Prop} {f : Nat → Std} {kvs : List (Std × V)} {n : Nat} (h : TabS R f kvs n) {s : Std} (hs : ∀ k, k < n → f k ≠ s) : valV kvs s = none := by
  cases e : valV kvs s with
  | none => rfl
  | some v =>
    unfold valV at e
    cases e2 : kvs.find? fun kv => decide (kv.1 = s) with
    | none => rw [e2] at e; cases e
    | some kv =>
      have h1 := List.mem_of_find?_eq_some e2
      have h2 : kv.1 = s := by simpa using List.find?_some e2
      obtain ⟨i, hi⟩ := List.mem_iff_getElem?.mp h1
      have hin : i < n := by rw [← h.1]; exact (List.getElem?_eq_some_iff.mp hi).1
      obtain ⟨v', h3, _⟩ := h.2 i hin
      rw [hi] at h3
      have := Option.some.inj h3
      rw [this] at h2
      exact absurd h2 (hs i hin)
theorem TabS.get {R : Nat → V → Prop} {f : Nat → Std} {kvs : List (Std × V)} {n : Nat} (h : TabS R f kvs n) (inj : ∀ i j, i < n → j < n → f i = f j → i = j) {k : Nat} (hk : k < n) : ∃ v, valV kvs (f k) = some v ∧ R k v := by
  obtain ⟨v, h1, h2⟩ := h.2 k hk
  refine ⟨v, ?_, h2⟩
  unfold valV
  have h3 : (kvs.find? fun kv => decide (kv.1 = f k)).isSome := by
    rw [List.find?_isSome]
    exact ⟨_, List.mem_of_getElem? h1, by simp⟩
  obtain ⟨kv, e⟩ := Option.isSome_iff_exists.mp h3
  rw [e]
  obtain ⟨i, hi⟩ := List.mem_iff_getElem?.mp (List.mem_of_find?_eq_some e)
  have hin : i < n := by rw [← h.1]; exact (List.getElem?_eq_some_iff.mp hi).1
  have h4 : kv.1 = f k := by simpa using List.find?_some e
  obtain ⟨v', h5, _⟩ := h.2 i hin
  rw [hi] at h5
  have e5 := Option.some.inj h5
  rw [e5] at h4
  have := inj i k hin hk h4
  subst this
  rw [h1] at hi
  rw [← Option.some.inj hi]; rfl
theorem TabS.put {R : Nat → V → Prop} {f : Nat → Std} {kvs : List (Std × V)} {n : Nat} (h : TabS R f kvs n) (inj : ∀ k, k < n → f k ≠ f n) {v : V} (hv : R n v) : TabS R f (putK kvs (f n) v) (n + 1) := by
  rw [putK_new v (h.no inj)]
  refine ⟨by rw [List.length_append, h.1]; rfl, fun k hk => ?_⟩
  by_cases e : k < n
  · obtain ⟨w, h1, h2⟩ := h.2 k e
    exact ⟨w, by rw [List.getElem?_append_left (by rw [h.1]; exact e)]; exact h1, h2⟩
  · have : k = n := by omega
    subst this
    exact ⟨v, by rw [List.getElem?_append_right (by rw [h.1]; exact Nat.le_refl _), h.1, Nat.sub_self]; rfl, hv⟩
theorem TabS.keys {R : Nat → V → Prop} {f : Nat → Std} {kvs : List (Std × V)} {n : Nat} (h : TabS R f kvs n) : kvs.map (·.1) = (List.range n).map f := by
  apply List.ext_getElem?
  intro i
  by_cases hi : i < n
  · obtain ⟨v, h1, _⟩ := h.2 i hi
    rw [List.getElem?_map, h1, List.getElem?_map, List.getElem?_range hi]; rfl
  · rw [List.getElem?_eq_none (by rw [List.length_map, h.1]; omega), List.getElem?_eq_none (by rw [List.length_map, List.length_range]; omega)]
/-- the data of the ways from a standing -/
abbrev dWys (d : Wd) (tb : List (List (Nat × Nat))) (b : Int) (s : Std) : PyData := .tuple ((wys d tb b s).map dWy)
abbrev dStds (f : Nat → Std) (T : Nat) : PyData := .tuple (((List.range T).map f).map dStd)
/-- an Outlook over the standings f 0, .., f (T - 1) -/
structure OutAt (P : Program) (w : World) (K : PySem.W.Frag) (cl : Cls6) (H : Hp) (a : Addr) (d : Wd) (b : Int) (tb : List (List (Nat × Nat))) (f : Nat → Std) (T : Nat) : Prop where
  ex : ∃ (dx : Addr) (fs : List (Str × V)) (qc qw : Addr) (kc kw : List (Std × V)) (vs : V), H a = some (.ins cl.O dx fs) ∧ lk fs "callings" = some (.ref qc) ∧ ND eStd P w K H qc kc ∧ TabS (fun k v => v = .str (tx (lets d tb b k))) f kc T ∧
    lk fs "ways" = some (.ref qw) ∧ ND eStd P w K H qw kw ∧ TabS (fun k v => Dt H v (dWys d tb b (f k))) f kw T ∧ lk fs "standings" = some vs ∧ Dt H vs (dStds f T)
theorem OutAt.ext {P : Program} {w : World} {K : PySem.W.Frag} {cl : Cls6} {H H' : Hp} {a : Addr} {d : Wd} {b : Int} {tb : List (List (Nat × Nat))} {f : Nat → Std} {T : Nat} (h : OutAt P w K cl H a d b tb f T) (e : Ex H H') : OutAt P w K cl H' a d b tb f T := by
  obtain ⟨dx, fs, qc, qw, kc, kw, vs, h1, h2, h3, h4, h5, h6, h7, h8, h9⟩ := h.ex
  exact ⟨dx, fs, qc, qw, kc, kw, vs, e _ _ h1, h2, h3.ex e, h4, h5, h6.ex e, h7.imp fun k v q => q.ex e, h8, h9.ex e⟩
theorem ex_unlock {H H' : Hp} {dd : Addr} {u : HO} {od : Obj} (h : H dd = some u) (e : Ex (upd H dd (.frz od u)) H') : Ex H (upd H' dd u) := fun c o hc => by
  by_cases z : c = dd
  · subst z; rw [upd_same]; rw [h] at hc; exact hc
  · rw [upd_ne z]; exact e _ _ (by rw [upd_ne z]; exact hc)
theorem ND.out {κ : Type} [DecidableEq κ] {E : Emb κ} {P : Program} {w : World} {K : PySem.W.Frag} {H : Hp} {p : Addr} {kvs : List (κ × V)} (h : ND E P w K H p kvs) : ∃ xs, H p = some (NdO P w p xs) := by
  obtain ⟨xs, h1, _⟩ := h
  exact ⟨xs, h1⟩
mutual
theorem Dt.sub {H H' : Hp} (e : ∀ b o xs, H b = some (.frz o (.tup xs)) → H' b = some (.frz o (.tup xs))) : ∀ {d : PyData} {v : V}, Dt H v d → Dt H' v d
  | .none, _, h => by cases h; exact .non
  | .bool b, _, h => by cases h; exact .bl b
  | .int i, _, h => by cases h; exact .int i
  | .str x, _, h => by cases h; exact .str x
  | .list ds, _, h => by cases h
  | .tuple ds, _, h => by
    cases h with
    | tup hs hd ha => exact .tup (e _ _ _ hs) hd (ha.sub e)
  | .dict _, _, h => by cases h
theorem DtAll.sub {H H' : Hp} (e : ∀ b o xs, H b = some (.frz o (.tup xs)) → H' b = some (.frz o (.tup xs))) : ∀ {ds : List PyData} {vs : List V}, DtAll H vs ds → DtAll H' vs ds
  | [], _, h => by cases h; exact .nil
  | d :: ds, _, h => by
    cases h with
    | cons h1 h2 => exact .cons (h1.sub e) (h2.sub e)
end
section
variable {P : Program} {w : World} {K : PySem.W.Frag} {mg : Str → Option Value} {base : Heap} {f : Addr} {fd : FuncData} {cl : Cls6}
abbrev s_Outlook_init : Stmt := inClass (top 61) 0
abbrev N_Outlook_init : List Str := ["self", "book", "callings", "ways", "found", "pairs", "word", "standing", "letter", "goal"]
theorem sc_Outlook_init : FnScope N_Outlook_init ["self", "book"] (defScope s_Outlook_init) := ⟨rfl, rfl, rfl, by decide +kernel, rfl, by decide +kernel, by decide +kernel⟩
def sp_Outlook_init (P : Program) (w : World) (K : PySem.W.Frag) (cl : Cls6) : Sp := fun vs H Q _ => ∃ (p dx B M : Addr) (d : Wd) (b : Int) (tb : List (List (Nat × Nat))) (ls : List Nat) (many : Nat) (g : Nat → Std) (T : Nat), vs = [.ref p, .ref B] ∧ H p = some (.ins cl.O dx []) ∧ p ≠ B ∧ p ≠ M ∧ (∀ H', ExB p H H' → BookAt K cl H' B M d b tb many) ∧ CdOk d b tb ls many ∧ Trl d tb b many g T ∧
  ∀ H', ExB p H H' → OutAt P w K cl H' p d b tb g T → Q .non H'
/-- behind i turns -/
def OtI (P : Program) (w : World) (K : PySem.W.Frag) (cl : Cls6) (d : Wd) (b : Int) (tb : List (List (Nat × Nat))) (g : Nat → Std) (T : Nat) (p dx B C W : Addr) (fs : List (Str × V)) (H : Hp) (i : Nat) (σ : St) (H2 : Hp) : Prop :=
  ∃ (F : Addr) (t5 t6 t7 t8 t9 : Option V) (kc kw : List (Std × V)), i ≤ T ∧ σ = [some (.ref p), some (.ref B), some (.ref C), some (.ref W), some (.ref F), t5, t6, t7, t8, t9] ∧ ExB p H H2 ∧ H2 p = some (.ins cl.O dx fs) ∧ H F = none ∧ F ≠ p ∧ C ≠ F ∧ W ≠ F ∧
    ND eStd P w K H2 C kc ∧ TabS (fun k v => v = .str (tx (lets d tb b k))) g kc i ∧ ND eStd P w K H2 W kw ∧ TabS (fun k v => Dt H2 v (dWys d tb b (g k))) g kw i ∧ ND eStd P w K H2 F (if i < T then [(g i, .str (tx (lets d tb b i)))] else [])
theorem ok_Outlook_init  (T : Txt K mg cl) (F : FnP K "__init__" "Outlook.__init__" s_Outlook_init [] f fd) (P_Book_beginning : PDef P w K mg base cl.B "beginning" 1 ((sp_Book_beginning K cl))) (M_Book_ways_from : MDef P w K mg base cl.B "ways_from" 2 ["self", "standing"] [] ((sp_Book_ways_from K cl))) : FnOk P w K mg base CX0 3 f fd ["self", "book"] ((sp_Outlook_init P w K cl)) := by
  refine F.ok sc_Outlook_init (fun vs H Q E h => ?_) (fun cdv A outer s H vs Q E hr h => ?_)
  · unfold sp_Outlook_init at h; (repeat obtain ⟨_, h⟩ := h); subst_vars; rfl
  have hu := hr.units
  refine ⟨_, PSs.nox (pss_cons (ps_fld (pv 0) (pv 1) rfl)
      (pss_cons (ps_set (i := 2) sc_Outlook_init.nd rfl (Or.inl rfl) pe_dnewN)
      (pss_cons (ps_set (i := 3) sc_Outlook_init.nd rfl (Or.inl rfl) pe_dnewN)
      (pss_cons (ps_set (i := 4) sc_Outlook_init.nd rfl (Or.inr rfl) (pe_dispN hu (pe_p P_Book_beginning hr (pv 1)) pe_str))
      (pss_cons (ps_while PassesOwn.never (pt_truR (tru_A (P := P) (w := w) (K := K)) (pv 4)) (pss_cons (ps_set (i := 5) sc_Outlook_init.nd rfl (Or.inl rfl) (pe_callB cr_sort1 (by rfl) T.b_sorted (by decide +kernel) (pa_cons (pe_lock (pe_lc (own := [("standing", 7)]) rfl sc_Outlook_init.nd (pi_keysN (pv 4)) (blkOk_by (N := N_Outlook_init) (sc := defScope s_Outlook_init) (by decide +kernel)) (fun _ _ _ _ _ => (pg_name (i := 7) sc_Outlook_init.nd rfl (Or.inl rfl))) (fun _ _ _ _ _ => pts_nil) (fun _ _ _ _ _ => (pe_tupN (pa_cons (pe_ix (ix_A (P := P) (w := w) (K := K) hu) (pv 4) (pv 7) (fun _ _ => rfl)) (pa_cons (pv 7) pa_nil)))))) pa_nil)))
      (pss_cons (ps_if (pt_cmpR op_gt (pe_op (op_addA (K := K)) (pe_callB (call_lenA (P := P) (w := w) (K := K)) (by rfl) T.b_len (by decide +kernel) (pa_cons (pv 2) pa_nil)) (pe_callB (call_lenA (P := P) (w := w) (K := K)) (by rfl) T.b_len (by decide +kernel) (pa_cons (pv 5) pa_nil))) (pe_gci T.c_MOST_STANDINGS) (nomark _)) pss_never pss_nil)
      (pss_cons (ps_for PassesOwn.never rfl (pi_list (pv 5)) (pg_tup rfl (pgs_cons (pg_name (i := 6) sc_Outlook_init.nd rfl (Or.inl rfl)) (pgs_cons (pg_name (i := 7) sc_Outlook_init.nd rfl (Or.inl rfl)) pgs_nil))) (pss_cons (ps_asg (pv 6) (pg_sub (pv 2) (pv 7) (set_A (P := P) (w := w) (K := K) hu)))
      (pss_one (ps_asg (pe_md M_Book_ways_from hr (pv 1) (pa_cons (pv 7) pa_nil)) (pg_sub (pv 3) (pv 7) (set_A (P := P) (w := w) (K := K) hu))))))
      (pss_cons (ps_set (i := 4) sc_Outlook_init.nd rfl (Or.inr rfl) pe_dnewN)
      (pss_one (ps_for PassesOwn.never rfl (pi_list (pv 5)) (pg_tup rfl (pgs_cons (pg_name (i := 6) sc_Outlook_init.nd rfl (Or.inl rfl)) (pgs_cons (pg_name (i := 7) sc_Outlook_init.nd rfl (Or.inl rfl)) pgs_nil))) (pss_one (ps_for PassesOwn.never rfl (pi_tup (pe_ix (ix_A (P := P) (w := w) (K := K) hu) (pv 3) (pv 7) (fun _ _ => rfl))) (pg_tup rfl (pgs_cons (pg_name (i := 8) sc_Outlook_init.nd rfl (Or.inl rfl)) (pgs_cons (pg_name (i := 9) sc_Outlook_init.nd rfl (Or.inl rfl)) pgs_nil))) (pss_one (ps_if (PW.pt (pw_and (pt_cmpR (op_notInA (P := P) (w := w) (K := K) hu) (pv 9) (pv 2) (by rfl)) (pw_and1 (PW.pt (pw_or (pt_cmpR (op_notInA (P := P) (w := w) (K := K) hu) (pv 9) (pv 4) (by rfl)) (pw_or1 (pt_cmpR op_lt (pe_op (op_addA (K := K)) (pv 6) (pv 8)) (pe_ix (ix_A (P := P) (w := w) (K := K) hu) (pv 4) (pv 9) (fun _ _ => rfl)) (nomark _)))))))) (pss_one (ps_asg (pe_op (op_addA (K := K)) (pv 6) (pv 8)) (pg_sub (pv 4) (pv 9) (set_A (P := P) (w := w) (K := K) hu)))) pss_nil)))))))))))
      (pss_cons (ps_fld (pv 0) (pv 2) rfl)
      (pss_cons (ps_fld (pv 0) (pv 3) rfl)
      (pss_one (ps_fld (pv 0) (pe_callTy (call_tupN (K := K)) (by rfl) T.b_tuple (by decide +kernel) (pa_cons (pe_callTy (call_list_N rfl) (by rfl) T.b_list (by decide +kernel) (pa_cons (pv 2) pa_nil)) pa_nil)) rfl))))))))), ?_⟩
  obtain ⟨p, dx, B, M, d, b, tb, ls, many, g, T0, rfl, hp, hpB, hpM, hB, hc, hT, q⟩ := h
  have h8 := hc.w.s8
  have t391 := hT.t391
  have tp : ∀ {H1 : Hp}, ExB p H H1 → Tp H H1 := fun e => e.tp (by rw [hp]; trivial)
  refine ⟨_, rfl, _, rfl, p, cl.O, dx, _, rfl, hp, T.c_O, T.n_O_book, by show 0 < 1000; decide, ?_⟩
  generalize eF1 : putF "book" (V.ref B) [] = F1
  have lF1 : F1.length ≤ 1 := by rw [← eF1]; exact len_putF "book" (V.ref B) []
  have b1 : ExB p H (upd H p (.ins cl.O dx F1)) := (ExB.refl p H).fld
  have hp1 : upd H p (.ins cl.O dx F1) p = some (.ins cl.O dx F1) := upd_same
  obtain ⟨H1, eH1⟩ : ∃ H1, H1 = upd H p (.ins cl.O dx F1) := ⟨_, rfl⟩
  rw [← eH1] at b1 hp1 ⊢
  intro C hC hCm
  have e2 : Ex H1 (upd H1 C (NdO P w C [])) := Ex.new hC
  have neC : C ≠ p := fun z => by rw [z, hp1] at hC; cases hC
  have nC : H C = none := b1.none hC neC
  intro W hW hWm
  have e3 : Ex (upd H1 C (NdO P w C [])) (upd (upd H1 C (NdO P w C [])) W (NdO P w W [])) := Ex.new hW
  have neCW : C ≠ W := fun z => by rw [← z] at hW; exact absurd (hW.symm.trans upd_same) (by simp)
  have neW : W ≠ p := fun z => by rw [z] at hW; exact absurd (hW.symm.trans (e2 _ _ hp1)) (by simp)
  have nW : H W = none := (b1.ext e2).none hW neW
  have hC3 : ND eStd P w K (upd (upd H1 C (NdO P w C [])) W (NdO P w W [])) C [] := nd_nil (by rw [upd_ne neCW]; exact upd_same) hCm
  have hW3 : ND eStd P w K (upd (upd H1 C (NdO P w C [])) W (NdO P w W [])) W [] := nd_nil upd_same hWm
  have e13 := e2.trans e3
  intro F hF hFm
  have e4 : Ex (upd (upd H1 C (NdO P w C [])) W (NdO P w W [])) (upd (upd (upd H1 C (NdO P w C [])) W (NdO P w W [])) F (NdO P w F [])) := Ex.new hF
  have neF : F ≠ p := fun z => by rw [z] at hF; exact absurd (hF.symm.trans (e13 _ _ hp1)) (by simp)
  have nF : H F = none := (b1.ext e13).none hF neF
  have hF' : upd (upd H1 C (NdO P w C [])) W (NdO P w W []) F = none := hF
  have neCF : C ≠ F := fun z => by obtain ⟨xs, hz⟩ := hC3.out; rw [← z] at hF'; cases hF'.symm.trans hz
  have neWF : W ≠ F := fun z => by obtain ⟨xs, hz⟩ := hW3.out; rw [← z] at hF'; cases hF'.symm.trans hz
  have b4 := (b1.ext e13).ext e4
  obtain ⟨bx, bs, ve, q0, kvs, m1, _⟩ := (hB _ b4).ex
  refine ⟨_, rfl, B, bx, bs, rfl, m1, B, M, d, b, tb, many, rfl, hB _ b4, fun v5 H5 e5 hv5 => ?_⟩
  have e45 := e4.trans e5
  refine ⟨Std, inferInstance, eStd, ((0, rgI d.st) : Std), e5 _ _ upd_same, Dt.ks (s := ((0, rgI d.st) : Std)) hv5, fun o hnd => ?_⟩
  have t5 : Tp H5 (upd H5 F o) := Tp.upd (by rw [e5 _ _ upd_same]; trivial)
  have keep5 : ∀ c x, c ≠ F → (upd (upd H1 C (NdO P w C [])) W (NdO P w W [])) c = some x → upd H5 F o c = some x := fun c x hcF hx => by rw [upd_ne hcF]; exact e45 _ _ hx
  refine ⟨fun m σ H2 => ∃ i, m = T0 + 1 - i ∧ OtI P w K cl d b tb g T0 p dx B C W F1 H i σ H2, ⟨T0 + 1, 0, rfl, F, none, none, none, none, none, [], [], Nat.zero_le _, rfl, (((b1.ext e13).ext e45).mut nF), keep5 p _ (Ne.symm neF) (e13 _ _ hp1), nF, neF, neCF, neWF, (hC3.ex e45).at (upd_ne neCF) t5, ⟨rfl, fun k hk => by omega⟩, (hW3.ex e45).at (upd_ne neWF) t5, ⟨rfl, fun k hk => by omega⟩, ?_⟩, ?_⟩
  · rw [if_pos (show 0 < T0 from hT.t1), hT.zero]; exact hnd
  rintro m σ H6 ⟨i, rfl, F, s5, s6, s7, s8, s9, kc, kw, hiT, rfl, b6, hp6, nF6, neF6, neCF6, neWF6, hC6, tC6, hW6, tW6, hF6⟩
  refine ⟨_, rfl, tru_n hF6.r (iB (b := decide (i < T0)) ?_ (fun ei => ?_) (fun ei => ?_))⟩
  · by_cases h : i < T0
    · rw [if_pos h, decide_eq_true h]; rfl
    · rw [if_neg h, decide_eq_false h]; rfl
  rotate_left
  · -- the end
    have hi : i = T0 := by have := of_decide_eq_false ei; omega
    subst hi
    refine ⟨_, rfl, _, rfl, p, cl.O, dx, _, rfl, hp6, T.c_O, T.n_O_callings, by omega, ?_⟩
    refine ⟨_, rfl, _, rfl, p, cl.O, dx, _, rfl, upd_same, T.c_O, T.n_O_ways, by have := len_putF "callings" (V.ref C) F1; omega, ?_⟩
    rw [upd_upd]
    generalize eF3 : putF "ways" (V.ref W) (putF "callings" (V.ref C) F1) = F3
    have lF3 : F3.length ≤ 3 := by rw [← eF3]; have a1 := len_putF "ways" (V.ref W) (putF "callings" (V.ref C) F1); have a2 := len_putF "callings" (V.ref C) F1; omega
    have t7 : Tp H6 (upd H6 p (.ins cl.O dx F3)) := Tp.upd (by rw [hp6]; trivial)
    have hC7 := hC6.at (H' := upd H6 p (.ins cl.O dx F3)) (upd_ne neC) t7
    have hW7 := hW6.at (H' := upd H6 p (.ins cl.O dx F3)) (upd_ne neW) t7
    refine ⟨_, rfl, Std, inferInstance, eStd, C, kc, rfl, hC7.r, fun l bs2 hl hbs => ?_⟩
    have e8 : Ex (upd H6 p (.ins cl.O dx F3)) (upd (upd H6 p (.ins cl.O dx F3)) l (.lst bs2)) := Ex.new hl
    have hbs : DtAll (upd H6 p (.ins cl.O dx F3)) bs2 (((List.range i).map g).map dStd) := by
      have : (kc.map fun kv => (eStd.key kv.1).data) = ((List.range i).map g).map dStd := by
        rw [← tC6.keys, List.map_map]
        exact List.map_congr_left fun kv _ => data_std kv.1
      rw [← this]; exact hbs
    refine tup_d (sq_of upd_same) (hbs.ex e8) fun v9 H9 e9 hv9 => ⟨_, rfl, p, cl.O, dx, _, rfl, (e8.trans e9) _ _ upd_same, T.c_O, T.n_O_standings, by omega, ?_⟩
    have e89 := e8.trans e9
    have t10 : Tp H9 (upd H9 p (.ins cl.O dx (putF "standings" v9 F3))) := Tp.upd (by rw [e89 _ _ upd_same]; trivial)
    refine q _ ((b6.fld.ext e89).fld) ⟨dx, _, C, W, kc, kw, v9, upd_same, ?_, (hC7.ex e89).at (upd_ne neC) t10, tC6, ?_, (hW7.ex e89).at (upd_ne neW) t10, tW6.imp fun k v h => h.tp ((t7.trans (Tp.of e89)).trans t10), ?_, hv9.tp t10⟩
    all_goals subst eF3 eF1
    all_goals (show List.lookup _ _ = _; repeat (first | exact lkE | rw [lkN (by decide +kernel)]))
  have hi : i < T0 := of_decide_eq_true ei
  rw [if_pos hi] at hF6
  refine ⟨fun σ' H' => ∃ m', m' < T0 + 1 - i ∧ ∃ i, m' = T0 + 1 - i ∧ OtI P w K cl d b tb g T0 p dx B C W F1 H i σ' H', fun _ _ h => h, ?_⟩
  obtain ⟨xF, hxF, hFm6, hFz, hFn, hFk⟩ := id hF6
  refine ⟨F, _, hxF, trivial, fun od => ?_⟩
  have tl : Tp H6 (upd H6 F (.frz od (NdO P w F xF))) := Tp.upd (by rw [hxF]; trivial)
  have hz : NDz eStd P w K (upd H6 F (.frz od (NdO P w F xF))) F od [(g i, .str (tx (lets d tb b i)))] := ⟨xF, upd_same, hFm6, hFz, hFn, hFk.tp tl⟩
  refine ⟨_, rfl, Std, inferInstance, eStd, F, od, _, rfl, hz, fun D nD => ?_⟩
  have zex : ∀ H2, Ex (upd H6 F (.frz od (NdO P w F xF))) H2 → NDz eStd P w K H2 F od [(g i, .str (tx (lets d tb b i)))] := fun H2 e => hz.tp (Tp.of e)
  refine lc_gen (walk_keysN (kvs := [(g i, V.str (tx (lets d tb b i)))])) (fun j acc H => DtAll H acc (([.tuple [.str (tx (lets d tb b i)), dStd (g i)]] : List PyData).take j)) (fun _ _ _ _ t h => h.tp t) nD .nil zex ?_ ?_
  · rintro j y acc H7 H8 hj l1 hD e7 hacc ⟨rfl, k, v, hkv, hy⟩
    obtain rfl : j = 0 := by simp at hj; omega
    obtain ⟨rfl, rfl⟩ : k = g i ∧ v = V.str (tx (lets d tb b i)) := by
      have := Option.some.inj hkv
      exact ⟨(congrArg Prod.fst this).symm, (congrArg Prod.snd this).symm⟩
    refine ⟨rfl, yT ⟨_, rfl, _, rfl, ix_n (zex _ e7).r hy.dp (valV_pos rfl) ⟨_, rfl, ?_⟩⟩⟩
    refine tupN_d (ds := [.str (tx (lets d tb b i)), dStd (g i)]) (.cons (.str _) (.cons hy.sk .nil)) (by show 2 ≤ 100; decide) fun v9 H9 e9 hv9 => ?_
    refine LcN.mk (fun _ _ _ _ t h => h.tp t) nD hD e7 e9 l1 (by decide) ?_
    cases hacc
    exact .cons hv9 .nil
  rintro ys H7 e7 hD hyl hys
  have hys : DtAll H7 ys [.tuple [.str (tx (lets d tb b i)), dStd (g i)]] := hys
  have e67 : Ex H6 (upd H7 F (NdO P w F xF)) := ex_unlock hxF e7
  have neDF : D ≠ F := fun z => by rw [z, upd_same] at nD; cases nD
  have nD6 : H6 D = none := by rw [upd_ne neDF] at nD; exact nD
  refine ⟨e7 _ _ upd_same, ?_⟩
  have hD8 : upd H7 F (NdO P w F xF) D = some (.lst ys) := by rw [upd_ne neDF]; exact hD
  have hys8 := hys.sub (H' := upd H7 F (NdO P w F xF)) (fun c o xs h => by
    have : c ≠ F := fun z => by rw [z, e7 _ _ upd_same] at h; cases h
    rw [upd_ne this]; exact h)
  obtain ⟨y, rfl, hy8⟩ : ∃ y, ys = [y] ∧ Dt (upd H7 F (NdO P w F xF)) y (.tuple [.str (tx (lets d tb b i)), dStd (g i)]) := by
    cases hys8 with
    | cons h1 h2 => cases h2; exact ⟨_, rfl, h1⟩
  have b8 : ExB p H (upd H7 F (NdO P w F xF)) := b6.ext e67
  have hp8 := e67 _ _ hp6
  have hC8 := hC6.ex e67
  have hW8 := hW6.ex e67
  have tW8 : TabS (fun k v => Dt (upd H7 F (NdO P w F xF)) v (dWys d tb b (g k))) g kw i := tW6.imp fun k v q => q.ex e67
  obtain ⟨H8, eH8⟩ : ∃ H8, H8 = upd H7 F (NdO P w F xF) := ⟨_, rfl⟩
  rw [← eH8] at hD8 hy8 b8 hp8 hC8 hW8 tW8 ⊢
  refine ⟨D, [y], rfl, sq_of hD8, by show 1 < 2; decide, fun S hS => gN_ ?_⟩
  have e9 : Ex H8 (upd H8 S (.lst [y])) := Ex.new hS
  have neS : S ≠ p := fun z => by rw [z, hp8] at hS; cases hS
  have neSC : S ≠ C := fun z => by obtain ⟨xs, hz⟩ := hC8.out; rw [z, hz] at hS; cases hS
  have neSW : S ≠ W := fun z => by obtain ⟨xs, hz⟩ := hW8.out; rw [z, hz] at hS; cases hS
  have nS : H S = none := b8.none hS neS
  have b9 := b8.ext e9
  have hp9 := e9 _ _ hp8
  have hC9 := hC8.ex e9
  have hW9 := hW8.ex e9
  have hy9 := hy8.ex e9
  have tW9 : TabS (fun k v => Dt (upd H8 S (.lst [y])) v (dWys d tb b (g k))) g kw i := tW8.imp fun k v q => q.ex e9
  have hS9 : upd H8 S (.lst [y]) S = some (.lst [y]) := upd_same
  obtain ⟨H9, eH9⟩ : ∃ H9, H9 = upd H8 S (.lst [y]) := ⟨_, rfl⟩
  rw [← eH9] at b9 hp9 hC9 hW9 hy9 tW9 hS9 ⊢
  have lkc := tC6.1
  have lkw := tW6.1
  refine ⟨_, rfl, len_n hC9.r ⟨_, rfl, len_l (sq_of hS9) (add_i ⟨_, _, rfl, rfl, ?_⟩)⟩⟩
  refine ⟨_, rfl, iN (decide_eq_false ?_) ?_⟩
  · rw [lkc]; show ¬ (400 < (i : Int) + 1); omega
  have sgi : SKk d many (g i) := hT.ok i hi
  have gne : ∀ k, k < i → g k ≠ g i := fun k hk e => by have := hT.inj k i (by omega) hi e; omega
  obtain ⟨aY, oY, xY, rfl, hY1, hY2, hY3⟩ := hy9.tupI
  refine nx_ ?_
  refine ⟨_, rfl, S, rfl, ⟨_, sq_of hS9⟩, ?_⟩
  refine for_it (walk_list (xs := [V.ref aY])) (fun n σ H2 => ∃ t6 t7 kc kw, σ = [some (.ref p), some (.ref B), some (.ref C), some (.ref W), some (.ref F), some (.ref S), t6, t7, s8, s9] ∧ ExB p H H2 ∧ Tp H9 H2 ∧ H2 p = some (.ins cl.O dx F1) ∧ H2 S = some (.lst [.ref aY]) ∧ ND eStd P w K H2 C kc ∧ TabS (fun k v => v = .str (tx (lets d tb b k))) g kc (i + n) ∧ ND eStd P w K H2 W kw ∧ TabS (fun k v => Dt H2 v (dWys d tb b (g k))) g kw (i + n))
    ⟨s6, s7, kc, kw, rfl, b9, Tp.refl _, hp9, hS9, hC9, tC6, hW9, tW9⟩ (fun n σ H2 _ ⟨_, _, _, _, _, _, _, _, h, _⟩ => sq_of h) ?_ ?_
  · rintro n z σ H2 H3 hn ⟨t6, t7, kc, kw, rfl, b3, t3, hp3, hS3, hC3, tC3, hW3, tW3⟩ ⟨rfl, hz⟩
    obtain rfl : n = 0 := by simp at hn; omega
    obtain rfl : V.ref aY = z := by simpa using hz
    cases hY3 with
    | cons g1 hY3 => cases hY3 with
    | cons g2 hY3 =>
    cases hY3
    obtain rfl := g1.strI
    rename_i vs
    refine ⟨aY, _, rfl, .inl (.inr ⟨oY, t3.2 _ _ _ hY1⟩), rfl, _, _, rfl, _, _, rfl, rfl, ?_⟩
    have g3 := g2.tp t3
    refine ⟨_, rfl, _, rfl, _, rfl, set_n (k := g i) hC3 (by rw [tC3.1, sizeLine_eq]; omega) g3.ks fun o hnd => ?_⟩
    have t4 : Tp H3 (upd H3 C o) := Tp.upd hC3.sft
    have b4 : ExB p H (upd H3 C o) := b3.mut nC
    have hp4 : upd H3 C o p = some (.ins cl.O dx F1) := by rw [upd_ne (Ne.symm neC)]; exact hp3
    have hS4 : upd H3 C o S = some (.lst [.ref aY]) := by rw [upd_ne neSC]; exact hS3
    have hW4 := hW3.at (H' := upd H3 C o) (upd_ne (Ne.symm neCW)) t4
    have tW4 : TabS (fun k v => Dt (upd H3 C o) v (dWys d tb b (g k))) g kw (i + 0) := tW3.imp fun k v h => h.tp t4
    have g4 := g3.tp t4
    have hB4 := hB _ b4
    obtain ⟨bx, bs, ve, q0, kvs, m1, _, _, _, _, _, _, _, m2, _⟩ := hB4.ex
    obtain ⟨H4, eH4⟩ : ∃ H4, H4 = upd H3 C o := ⟨_, rfl⟩
    rw [← eH4] at hnd t4 b4 hp4 hS4 hW4 tW4 g4 hB4 m1 ⊢
    refine ⟨_, rfl, B, bx, bs, rfl, m1, m2, _, rfl, B, M, _, d, b, tb, ls, many, g i, rfl, hB4, g4, hc.t, hc.l, h8, hc.b1, hc.b2, sgi, fun v5 H5 e5 hv5 => ⟨_, rfl, _, rfl, set_n (k := g i) (hW4.ex e5) (by rw [tW4.1, sizeLine_eq]; omega) (g4.ex e5).ks fun o5 hnd5 => ?_⟩⟩
    have t5 : Tp H5 (upd H5 W o5) := Tp.upd (hW4.ex e5).sft
    have t45 := (Tp.of e5).trans t5
    refine ⟨_, _, _, _, rfl, (b4.ext e5).mut nW, (t3.trans t4).trans t45, by rw [upd_ne (Ne.symm neW)]; exact e5 _ _ hp4, by rw [upd_ne neSW]; exact e5 _ _ hS4, (hnd.ex e5).at (upd_ne neCW) t5, TabS.put tC3 gne rfl, hnd5, TabS.put (tW4.imp fun k v h => h.tp t45) gne (hv5.tp t5)⟩
  rintro σ H2 ⟨t6, t7, kc, kw, rfl, b3, t3, hp3, hS3, hC3, tC3, hW3, tW3⟩
  have tC3 : TabS (fun k v => v = .str (tx (lets d tb b k))) g kc (i + 1) := tC3
  have tW3 : TabS (fun k v => Dt H2 v (dWys d tb b (g k))) g kw (i + 1) := tW3
  intro F2 hF2 hFm2
  have hF2' : H2 F2 = none := hF2
  have e10 : Ex H2 (upd H2 F2 (NdO P w F2 [])) := Ex.new hF2'
  have neF2 : F2 ≠ p := fun z => by rw [z, hp3] at hF2'; cases hF2'
  have neCF2 : C ≠ F2 := fun z => by obtain ⟨xs, hz⟩ := hC3.out; rw [z, hF2'] at hz; cases hz
  have neWF2 : W ≠ F2 := fun z => by obtain ⟨xs, hz⟩ := hW3.out; rw [z, hF2'] at hz; cases hz
  have neSF2 : S ≠ F2 := fun z => by rw [z, hF2'] at hS3; cases hS3
  have nF2 : H F2 = none := b3.none hF2' neF2
  have hF10 : ND eStd P w K (upd H2 F2 (NdO P w F2 [])) F2 [] := nd_nil upd_same hFm2
  obtain ⟨H10, eH10⟩ : ∃ H10, H10 = upd H2 F2 (NdO P w F2 []) := ⟨_, rfl⟩
  refine gN_ ?_
  dsimp only
  have hC10 := hC3.ex e10
  have hW10 := hW3.ex e10
  have tW10 : TabS (fun k v => Dt (upd H2 F2 (NdO P w F2 [])) v (dWys d tb b (g k))) g kw (i + 1) := tW3.imp fun k v h => h.ex e10
  have b10 := b3.ext e10
  have t10 := t3.trans (Tp.of e10)
  have hp10 := e10 _ _ hp3
  have hS10 := e10 _ _ hS3
  rw [← eH10] at e10 hF10 hC10 hW10 tW10 b10 t10 hp10 hS10
  refine (?_ : tFor _ _ _ _ _ (upd H2 F2 (NdO P w F2 [])))
  rw [← eH10]
  refine ⟨_, rfl, S, rfl, ⟨_, sq_of hS10⟩, ?_⟩
  obtain ⟨fin, efin⟩ : ∃ fin : List (Std × V), fin = if i + 1 < T0 then [(g (i + 1), .str (tx (lets d tb b (i + 1))))] else [] := ⟨_, rfl⟩
  have hway : ((wys d tb b (g i)) = [] ∧ fin = []) ∨ ∃ x, wys d tb b (g i) = [x] ∧ ((i + 1 < T0 ∧ x = (lt d tb b i, g (i + 1))) ∨ (fin = [] ∧ ∃ j, j < i + 1 ∧ x.2 = g j)) := by
    by_cases h : i + 1 < T0
    · exact .inr ⟨_, hT.step i h, .inl ⟨h, rfl⟩⟩
    · have : i = T0 - 1 := by omega
      have hl := hT.last
      rw [← this] at hl
      rw [if_neg h] at efin
      rcases hl with h1 | ⟨j, hj, h1⟩
      · exact .inl ⟨h1, efin⟩
      · exact .inr ⟨_, h1, .inr ⟨efin, j, by omega, rfl⟩⟩
  obtain ⟨vw, hval, hvw⟩ := tW10.get (fun a b' ha hb e => hT.inj a b' (by omega) (by omega) e) (k := i) (by omega)
  obtain ⟨aW, oW, xW, rfl, hW1, _, hWd⟩ := hvw.tupI
  have hlen : xW.length = (wys d tb b (g i)).length := by have := hWd.len; rwa [List.length_map] at this
  refine for_it (walk_list (xs := [V.ref aY])) (fun n σ H2 => ∃ t6 t7 t8 t9, σ = [some (.ref p), some (.ref B), some (.ref C), some (.ref W), some (.ref F2), some (.ref S), t6, t7, t8, t9] ∧ ExB p H H2 ∧ Tp H10 H2 ∧ H2 p = some (.ins cl.O dx F1) ∧ H2 S = some (.lst [.ref aY]) ∧ ND eStd P w K H2 C kc ∧ ND eStd P w K H2 W kw ∧ ND eStd P w K H2 F2 (if n = 0 then [] else fin))
    ⟨t6, t7, s8, s9, rfl, b10, Tp.refl _, hp10, hS10, hC10, hW10, hF10⟩ (fun n σ H2 _ ⟨_, _, _, _, _, _, _, _, h, _⟩ => sq_of h) ?_ ?_
  · rintro n z σ H3 H4 hn ⟨t6, t7, t8, t9, rfl, b4, t4, hp4, hS4, hC4, hW4, hF4⟩ ⟨rfl, hz⟩
    obtain rfl : n = 0 := by simp at hn; omega
    obtain rfl : V.ref aY = z := by simpa using hz
    cases hY3 with
    | cons g1 hY3 => cases hY3 with
    | cons g2 hY3 =>
    cases hY3
    obtain rfl := g1.strI
    rename_i vs
    have t94 := t10.trans t4
    refine ⟨aY, _, rfl, .inl (.inr ⟨oY, t94.2 _ _ _ hY1⟩), rfl, _, _, rfl, _, _, rfl, rfl, ?_⟩
    have g4 := g2.tp t94
    refine ⟨_, rfl, _, rfl, ix_n hW4.r g4.ks.dp hval ⟨aW, rfl, ⟨_, .inl (.inr ⟨oW, t4.2 _ _ _ hW1⟩)⟩, ?_⟩⟩
    refine for_it (walk_tup (xs := xW)) (fun n σ H2 => ∃ t8 t9, σ = [some (.ref p), some (.ref B), some (.ref C), some (.ref W), some (.ref F2), some (.ref S), some (.str (tx (lets d tb b i))), some vs, t8, t9] ∧ ExB p H H2 ∧ Tp H10 H2 ∧ H2 p = some (.ins cl.O dx F1) ∧ H2 S = some (.lst [.ref aY]) ∧ ND eStd P w K H2 C kc ∧ ND eStd P w K H2 W kw ∧ ND eStd P w K H2 F2 (if n = 0 then [] else fin))
      ⟨t8, t9, rfl, b4, t4, hp4, hS4, hC4, hW4, hF4⟩ (fun n σ H2 _ ⟨_, _, _, _, t, _⟩ => .inl (.inr ⟨oW, t.2 _ _ _ hW1⟩)) ?_ ?_
    · rintro n z σ H5 H6 hn ⟨t8, t9, rfl, b6, t6, hp6, hS6, hC6, hW6, hF6⟩ ⟨rfl, hz⟩
      rcases hway with ⟨hw0, _⟩ | ⟨x, hwx, hx⟩
      · rw [hlen, hw0] at hn; cases hn
      rw [hwx] at hlen hWd
      obtain rfl : n = 0 := by rw [hlen] at hn; simpa using hn
      cases hWd with
      | cons hx1 hx2 =>
      cases hx2
      rename_i vx
      obtain rfl : vx = z := by simpa using hz
      obtain ⟨aG, oG, xG, rfl, hG1, hG2, hG3⟩ := (hx1.tp t6).tupI
      cases hG3 with
      | cons k1 hG3 => cases hG3 with
      | cons k2 hG3 =>
      cases hG3
      obtain rfl := k1.strI
      rename_i vg
      refine ⟨aG, _, rfl, .inl (.inr ⟨oG, hG1⟩), rfl, _, _, rfl, _, _, rfl, rfl, ?_⟩
      rcases hx with ⟨hlt, rfl⟩ | ⟨hfin, j, hj, hxj⟩
      · have hno : valV kc (g (i + 1)) = none := tC3.no fun k hk e => by have := hT.inj k (i + 1) (by omega) hlt e; omega
        have k3 : Dt H6 vg (dStd (g (i + 1))) := k2
        refine ⟨_, rfl, _, rfl, ni_n hC6.r k3.ks.dp ⟨_, rfl, iP (by rw [hno]; rfl) ⟨_, rfl, _, rfl, ni_n hF6.r k3.ks.dp ⟨_, rfl, iP rfl (iT ?_)⟩⟩⟩⟩
        refine ⟨_, rfl, _, rfl, add_s (by rw [tx_length, lets_length, sizeLine_eq]; show i + 1 ≤ _; omega) ⟨_, rfl, _, rfl, set_n hF6 (by show 0 < sizeLine; decide) k3.ks fun o hnd => ?_⟩⟩
        have t7 : Tp H6 (upd H6 F2 o) := Tp.upd hF6.sft
        have hnd : ND eStd P w K (upd H6 F2 o) F2 fin := by
          rw [efin, if_pos hlt, lets_succ, ← tx_ch]; exact hnd
        exact ⟨_, _, rfl, b6.mut nF2, t6.trans t7, by rw [upd_ne (Ne.symm neF2)]; exact hp6, by rw [upd_ne neSF2]; exact hS6, hC6.at (upd_ne neCF2) t7, hW6.at (upd_ne neWF2) t7, hnd⟩
      · obtain ⟨vj, hvj, _⟩ := tC3.get (fun a b' ha hb e => hT.inj a b' (by omega) (by omega) e) hj
        have k3 : Dt H6 vg (dStd (g j)) := by rw [← hxj]; exact k2
        refine ⟨_, rfl, _, rfl, ni_n hC6.r k3.ks.dp ⟨_, rfl, iN (by rw [hvj]; rfl) (iF ?_)⟩⟩
        exact ⟨_, _, rfl, b6, t6, hp6, hS6, hC6, hW6, by rw [hfin]; exact hF6⟩
    · rintro σ H5 ⟨t8, t9, rfl, b6, t6, hp6, hS6, hC6, hW6, hF6⟩
      refine ⟨_, _, _, _, rfl, b6, t6, hp6, hS6, hC6, hW6, ?_⟩
      rcases hway with ⟨hw0, hf⟩ | ⟨x, hwx, hx⟩
      · rw [hf]; rw [hf] at hF6
        rw [ite_self] at hF6 ⊢; exact hF6
      · rw [hlen, hwx] at hF6; exact hF6
  · rintro σ H5 ⟨t6, t7, t8, t9, rfl, b6, t6, hp6, hS6, hC6, hW6, hF6⟩
    have hF6 : ND eStd P w K H5 F2 fin := hF6
    refine ⟨T0 + 1 - (i + 1), by omega, i + 1, rfl, F2, _, _, _, _, _, kc, kw, hi, rfl, b6, hp6, nF2, neF2, neCF2, neWF2, hC6, tC3, hW6, tW10.imp fun k v h => h.tp t6, ?_⟩
    rw [← efin]; exact hF6
end
end L2
set_option Elab.async false
set_option linter.all false
set_option maxRecDepth 100000
set_option maxHeartbeats 4000000
namespace L2
open PySem PySem.Spec PyProof.Rows Evl
section
variable {P : Program} {w : World} {K : PySem.W.Frag} {mg : Str → Option Value} {base : Heap} {f : Addr} {fd : FuncData} {cl : Cls6}
abbrev s_Outlook_stuck : Stmt := inClass (top 61) 1
abbrev N_Outlook_stuck : List Str := ["self", "standing"]
theorem sc_Outlook_stuck : FnScope N_Outlook_stuck ["self"] (defScope s_Outlook_stuck) := ⟨rfl, rfl, rfl, by decide +kernel, rfl, by decide +kernel, by decide +kernel⟩
def sp_Outlook_stuck (P : Program) (w : World) (K : PySem.W.Frag) (cl : Cls6) : Sp := fun vs H Q _ => ∃ (a : Addr) (d : Wd) (b : Int) (tb : List (List (Nat × Nat))) (ls : List Nat) (many : Nat) (g : Nat → Std) (T : Nat), vs = [.ref a] ∧ OutAt P w K cl H a d b tb g T ∧ CdOk d b tb ls many ∧ Trl d tb b many g T ∧
  ∀ v H', Ex H H' → Dt H' v (.tuple []) → Q v H'
theorem ok_Outlook_stuck  (T : Txt K mg cl) (F : FnP K "stuck" "Outlook.stuck" s_Outlook_stuck [] f fd)  : FnOk P w K mg base CX0 1 f fd ["self"] ((sp_Outlook_stuck P w K cl)) := by
  refine F.ok sc_Outlook_stuck (fun vs H Q E h => ?_) (fun cdv A outer s H vs Q E hr h => ?_)
  · unfold sp_Outlook_stuck at h; (repeat obtain ⟨_, h⟩ := h); subst_vars; rfl
  have hu := hr.units
  refine ⟨_, PSs.nox (pss_one (ps_ret (pe_callTy (call_tupN (K := K)) (by rfl) T.b_tuple (by decide +kernel) (pa_cons (pe_lc (own := [("standing", 1)]) rfl sc_Outlook_stuck.nd (pi_tup (pe_fld (pv 0) rfl)) (blkOk_by (N := N_Outlook_stuck) (sc := defScope s_Outlook_stuck) (by decide +kernel)) (fun _ _ _ _ _ => (pg_name (i := 1) sc_Outlook_stuck.nd rfl (Or.inl rfl))) (fun _ _ _ _ _ => (pts_one (PW.pt (pw_and (pt_cmpR op_ge (pe_ix (ix_A (P := P) (w := w) (K := K) hu) (pv 1) pe_int (fun _ _ => rfl)) pe_int (nomark _)) (pw_and1 (pt_not (pt_truR (tru_A (P := P) (w := w) (K := K)) (pe_ix (ix_A (P := P) (w := w) (K := K) hu) (pe_fldK (k0 := K) (pv 0) rfl) (pv 1) (fun _ _ => rfl))))))))) (fun _ _ _ _ _ => (pv 1))) pa_nil)))), ?_⟩
  obtain ⟨a, d, b, tb, ls, many, g, T0, rfl, hO, hc, hT, q⟩ := h
  have t391 := hT.t391
  obtain ⟨dx, fs, qc, qw, kc, kw, vs, h1, h2, h3, h4, h5, h6, h7, h8, h9⟩ := hO.ex
  obtain ⟨aS, oS, xS, rfl, hS1, hS2, hS3⟩ := h9.tupI
  refine ⟨_, rfl, a, cl.O, dx, fs, _, rfl, h1, T.c_O, T.n_O_standings, h8, aS, rfl, ⟨_, .inl (.inr ⟨oS, hS1⟩)⟩, fun D nD => ?_⟩
  refine lc_gen (walk_tup (xs := xS)) (fun j acc H => acc = []) (fun _ _ _ _ t h => h) nD rfl (fun H2 e => .inl (.inr ⟨oS, e _ _ hS1⟩)) ?_ ?_
  · rintro j y acc H2 H3 hj l1 hD e2 rfl ⟨rfl, hy⟩
    refine ⟨rfl, ?_⟩
    obtain ⟨dd, hdd, hyd⟩ := (hS3.ex e2).get hy
    obtain ⟨s, hs, rfl⟩ := mapD_get hdd
    have hjT : j < T0 := by
      have h := (List.getElem?_eq_some_iff.mp hs).1
      simpa using h
    obtain rfl : s = g j := by
      rw [List.getElem?_map, List.getElem?_range hjT] at hs
      exact (Option.some.inj hs).symm
    have hsk := hT.ok j hjT
    refine ⟨_, rfl, ix_d hyd (i := 0) (d := .int (g j).1) rfl fun v8 hv8 => ?_⟩
    rw [hv8.intI]
    refine ⟨_, _, rfl, rfl, _, rfl, ?_⟩
    rcases wys_cases (tb := tb) (b := b) hsk with ⟨hm, hw⟩ | ⟨hso, hw⟩
    · refine iN (decide_eq_false (by rw [hm]; decide)) (iF ?_)
      exact ⟨[], hD, e2, Nat.zero_le _, rfl⟩
    · have hm0 := hso.m0
      refine iP (decide_eq_true hm0) ?_
      obtain ⟨v, hv, hR⟩ := h7.get (fun a b' ha hb e => hT.inj a b' ha hb e) hjT
      refine ⟨_, rfl, a, cl.O, dx, fs, _, rfl, e2 _ _ h1, T.c_O, T.n_O_ways, h5, _, rfl, ix_n (h6.ex e2).r hyd.ks.dp hv ?_⟩
      refine tru_t (ds := (wys d tb b (g j)).map dWy) (hR.ex e2).dp ?_
      refine iN (by rw [hw]; rfl) ?_
      exact ⟨[], hD, e2, Nat.zero_le _, rfl⟩
  · rintro ys H2 e2 hD hl rfl
    exact tup_d (sq_of hD) .nil fun v3 H3 e3 hv3 => q v3 H3 (e2.trans e3) hv3
abbrev s_ranks_of : Stmt := top 64
abbrev N_ranks_of : List Str := ["outlook", "ranks", "waiting", "grows", "left", "standing", "behind", "pair"]
theorem sc_ranks_of : FnScope N_ranks_of ["outlook"] (defScope s_ranks_of) := ⟨rfl, rfl, rfl, by decide +kernel, rfl, by decide +kernel, by decide +kernel⟩
/-- the ranks, last standing first; none where the walk comes back -/
def RkS (d : Wd) (tb : List (List (Nat × Nat))) (b : Int) (g : Nat → Std) (T : Nat) (kvs : List (Std × V)) (n : Nat) : Prop := TabS (fun i v => v = .int (i : Nat)) (fun i => g (T - 1 - i)) kvs (if wys d tb b (g (T - 1)) = [] then n else 0)
theorem in_li {P : Program} {w : World} {K : PySem.W.Frag} {H : Hp} {Q : VK} {a : Addr} {r : List Int} {j : Int} (h : SqL K H a (r.map V.int)) (q : Q (.bl (r.contains j)) H) : rInA P w K (.int j) (.ref a) H Q := by
  unfold rInA
  exact .inl ⟨a, _, rfl, .inl h, rfl, flat_ints r, by show Q (.bl (inV _ _)) H; rw [inV_ints]; exact q⟩
def sp_ranks_of (P : Program) (w : World) (K : PySem.W.Frag) (cl : Cls6) : Sp := fun vs H Q _ => ∃ (a : Addr) (d : Wd) (b : Int) (tb : List (List (Nat × Nat))) (ls : List Nat) (many : Nat) (g : Nat → Std) (T : Nat), vs = [.ref a] ∧ OutAt P w K cl H a d b tb g T ∧ CdOk d b tb ls many ∧ Trl d tb b many g T ∧
  ∀ p kvs H', Ex H H' → ND eStd P w K H' p kvs → RkS d tb b g T kvs T → Q (.ref p) H'
theorem ok_ranks_of  (T : Txt K mg cl) (F : FnP K "ranks_of" "ranks_of" s_ranks_of [] f fd)  : FnOk P w K mg base CX0 1 f fd ["outlook"] ((sp_ranks_of P w K cl)) := by
  refine F.ok sc_ranks_of (fun vs H Q E h => ?_) (fun cdv A outer s H vs Q E hr h => ?_)
  · unfold sp_ranks_of at h; (repeat obtain ⟨_, h⟩ := h); subst_vars; rfl
  have hu := hr.units
  refine ⟨_, PSs.nox (pss_cons (ps_set (i := 1) sc_ranks_of.nd rfl (Or.inr rfl) pe_dnewN)
      (pss_cons (ps_set (i := 2) sc_ranks_of.nd rfl (Or.inl rfl) (pe_callTy call_list_of (by rfl) T.b_list (by decide +kernel) (pa_cons (pe_fld (pv 0) rfl) pa_nil)))
      (pss_cons (ps_set (i := 3) sc_ranks_of.nd rfl (Or.inl rfl) pe_bl)
      (pss_cons (ps_while PassesOwn.never (pt_truR (tru_A (P := P) (w := w) (K := K)) (pv 3)) (pss_cons (ps_set (i := 4) sc_ranks_of.nd rfl (Or.inl rfl) (pe_lst pa_nil))
      (pss_cons (ps_for PassesOwn.never rfl (pi_list (pe_revL (pv 2))) (pg_name (i := 5) sc_ranks_of.nd rfl (Or.inl rfl)) (pss_cons (ps_setLc (i := 6) (own := [("pair", 7)]) rfl sc_ranks_of.nd rfl rfl (sw_true rfl rfl rfl (by decide +kernel)) (pi_tup (pe_ix (ix_A (P := P) (w := w) (K := K) hu) (pe_fld (pv 0) rfl) (pv 5) (fun _ _ => rfl))) (blkOk_by (N := N_ranks_of) (sc := defScope s_ranks_of) (by decide +kernel)) (fun _ _ _ _ _ => (pg_name (i := 7) sc_ranks_of.nd rfl (Or.inl rfl))) (fun _ _ _ _ _ => pts_nil) (fun _ _ _ _ _ => (pe_bn (P := P) (w := w) (K := K) PySem.F.plainAttrs_dict PySem.F.slot_dict_get PySem.F.type_dict_get (mt_get2 (P := P) (w := w) (K := K) hu) (pv 1) (pa_cons (pe_ix (ix_A (P := P) (w := w) (K := K) hu) (pv 7) pe_int (fun _ _ => rfl)) (pa_cons (pe_un un_neg pe_int) pa_nil)))))
      (pss_one (ps_if (pt_cmpR (op_inA (P := P) (w := w) (K := K) hu) (pe_un un_neg pe_int) (pv 6) (by rfl)) (pss_one (ps_expr (pe_bm PySem.F.plainAttrs_list PySem.F.slot_list_append PySem.F.type_list_append mt_append (pv 4) (pa_cons (pv 5) pa_nil)))) (pss_one (ps_asg (pe_op (op_addA (K := K)) (pe_callB (cr_max rfl) (by rfl) T.b_max (by decide +kernel) (pa_cons (pe_lst (pa_cons (pe_un un_neg pe_int) (StX.pa_star (pv 6) pa_nil))) pa_nil)) pe_int) (pg_sub (pv 1) (pv 5) (set_A (P := P) (w := w) (K := K) hu))))))))
      (pss_cons (ps_set (i := 3) sc_ranks_of.nd rfl (Or.inl rfl) (pe_cmpR op_lt (pe_callB (call_lenA (P := P) (w := w) (K := K)) (by rfl) T.b_len (by decide +kernel) (pa_cons (pv 4) pa_nil)) (pe_callB (call_lenA (P := P) (w := w) (K := K)) (by rfl) T.b_len (by decide +kernel) (pa_cons (pv 2) pa_nil)) (nomark _)))
      (pss_one (ps_set (i := 2) sc_ranks_of.nd rfl (Or.inl rfl) (pe_revL (pv 4))))))))
      (pss_one (ps_ret (pv 1))))))), ?_⟩
  obtain ⟨a, d, b, tb, ls, many, g, T0, rfl, hO, hc, hT, q⟩ := h
  have t391 := hT.t391
  have t1 := hT.t1
  obtain ⟨dx, fs, qc, qw, kc, kw, vs, h1, h2, h3, h4, h5, h6, h7, h8, h9⟩ := hO.ex
  obtain ⟨aS, oS, xS, rfl, hS1, hS2, hS3⟩ := h9.tupI
  have hxl : xS.length = T0 := by have := hS3.len; simpa using this
  intro R hR hRm
  have e1 : Ex H (upd H R (NdO P w R [])) := Ex.new hR
  have hR1 : ND eStd P w K (upd H R (NdO P w R [])) R [] := nd_nil upd_same hRm
  refine ⟨_, rfl, a, cl.O, dx, fs, _, rfl, e1 _ _ h1, T.c_O, T.n_O_standings, h8, aS, xS, rfl, .inr (.inl (.inr ⟨oS, e1 _ _ hS1⟩)), fun W hW => ?_⟩
  have e12 : Ex (upd H R (NdO P w R [])) (upd (upd H R (NdO P w R [])) W (.lst xS)) := Ex.new hW
  have rk0 : ∀ n, n = 0 → RkS d tb b g T0 [] n := fun n hn => by subst hn; unfold RkS; rw [ite_self]; exact ⟨rfl, fun k hk => by omega⟩
  refine ⟨fun m σ H2 => ∃ (Wt : Addr) (t4 t5 t6 t7 : Option V) (gr : Bool) (bs : List V) (kvs : List (Std × V)), σ = [some (.ref a), some (.ref R), some (.ref Wt), some (.bl gr), t4, t5, t6, t7] ∧ Ex H H2 ∧ H2 Wt = some (.lst bs) ∧ ND eStd P w K H2 R kvs ∧ ((m = 2 ∧ gr = true ∧ bs = xS ∧ kvs = []) ∨ (m = 1 ∧ gr = true ∧ bs = [] ∧ RkS d tb b g T0 kvs T0) ∨ (m = 0 ∧ gr = false ∧ RkS d tb b g T0 kvs T0)),
    ⟨2, W, none, none, none, none, true, xS, [], rfl, e1.trans e12, upd_same, hR1.ex e12, .inl ⟨rfl, rfl, rfl, rfl⟩⟩, ?_⟩
  rintro m σ H2 ⟨Wt, t4, t5, t6, t7, gr, bs, kvs, rfl, e2, hW2, hR2, hm⟩
  refine ⟨_, rfl, tru_v (k := gr) rfl (iB (b := gr) rfl (fun e => ?_) (fun e => ?_))⟩
  rotate_left
  · subst e
    rcases hm with ⟨_, h, _⟩ | ⟨_, h, _⟩ | ⟨_, _, h⟩
    · cases h
    · cases h
    · exact ⟨_, rfl, q R kvs H2 e2 hR2 h⟩
  subst e
  have neR : H R = none := hR
  have hm2 : ¬ m = 0 := fun z => by rcases hm with ⟨h, _⟩ | ⟨h, _⟩ | ⟨_, h, _⟩ <;> first | omega | cases h
  refine ⟨fun σ' H' => ∃ m', m' < m ∧ _, fun _ _ h => h, ?_⟩
  refine ⟨by show 0 ≤ sizeLine; decide, fun L hL => ?_⟩
  have neRL : R ≠ L := fun z => by obtain ⟨xs, hz⟩ := hR2.out; rw [z, hL] at hz; cases hz
  have neRW : R ≠ Wt := fun z => by obtain ⟨xs, hz⟩ := hR2.out; rw [z, hW2] at hz; cases hz
  have nL : H L = none := fresh_back e2 hL
  have e3 : Ex H2 (upd H2 L (.lst [])) := Ex.new hL
  refine ⟨_, rfl, Wt, bs, rfl, sq_of (e3 _ _ hW2), fun Y hY => ⟨Y, rfl, ⟨_, sq_of upd_same⟩, ?_⟩⟩
  have e4 : Ex (upd H2 L (.lst [])) (upd (upd H2 L (.lst [])) Y (.lst bs.reverse)) := Ex.new hY
  have nY : H Y = none := fresh_back (e2.trans e3) hY
  have neLY : L ≠ Y := fun z => by rw [← z, upd_same] at hY; cases hY
  have neWL : Wt ≠ L := fun z => by rw [← z, hW2] at hL; cases hL
  have neRY : R ≠ Y := fun z => by obtain ⟨xs, hz⟩ := (hR2.ex e3).out; rw [z, hY] at hz; cases hz
  rcases hm with ⟨rfl, _, rfl, rfl⟩ | ⟨rfl, _, rfl, hrk⟩ | ⟨hz, _⟩
  rotate_left
  · -- the second turn, with nothing left
    refine for_it (walk_list (xs := ([] : List V))) (fun n σ H3 => n = 0 ∧ H3 = upd (upd H2 L (.lst [])) Y (.lst []) ∧ σ = [some (.ref a), some (.ref R), some (.ref Wt), some (.bl true), some (.ref L), t5, t6, t7])
      ⟨rfl, rfl, rfl⟩ (fun n σ H3 _ ⟨_, h, _⟩ => by rw [h]; exact sq_of upd_same) (fun n σ H3 H4 x hn => by cases hn) ?_
    rintro σ H3 ⟨_, rfl, rfl⟩
    refine ⟨_, rfl, len_l (sq_of (e4 _ _ upd_same)) ⟨_, rfl, len_l (sq_of (e4 _ _ (e3 _ _ hW2))) ⟨_, _, rfl, rfl, ?_⟩⟩⟩
    refine ⟨_, rfl, L, [], rfl, sq_of (e4 _ _ upd_same), fun W2 hW2' => ?_⟩
    have e5 := (Ex.new (o := HO.lst ([] : List V).reverse) hW2')
    refine ⟨0, by omega, W2, _, _, _, _, _, [], kvs, rfl, ((e2.trans e3).trans e4).trans e5, upd_same, ((hR2.ex e3).ex e4).ex e5, .inr (.inr ⟨rfl, rfl, hrk⟩)⟩
  · exact absurd hz hm2
  -- the first turn
  have inj : ∀ i j, i < T0 → j < T0 → g (T0 - 1 - i) = g (T0 - 1 - j) → i = j := fun i j hi hj e => by have := hT.inj (T0 - 1 - i) (T0 - 1 - j) (by omega) (by omega) e; omega
  refine for_it (walk_list (xs := bs.reverse)) (fun n σ H3 => ∃ t5 t6 t7 ls' kvs, σ = [some (.ref a), some (.ref R), some (.ref Wt), some (.bl true), some (.ref L), t5, t6, t7] ∧ Ex H H3 ∧ H3 Wt = some (.lst bs) ∧ H3 Y = some (.lst bs.reverse) ∧ H3 L = some (.lst ls') ∧ ls'.length = (if wys d tb b (g (T0 - 1)) = [] then 0 else n) ∧ ND eStd P w K H3 R kvs ∧ RkS d tb b g T0 kvs n)
    ⟨t5, t6, t7, [], [], rfl, (e2.trans e3).trans e4, e4 _ _ (e3 _ _ hW2), upd_same, e4 _ _ upd_same, by rw [ite_self]; rfl, (hR2.ex e3).ex e4, rk0 _ rfl⟩ (fun n σ H2 _ ⟨_, _, _, _, _, _, _, _, h, _⟩ => sq_of h) ?_ ?_
  · rintro n z σ H3 H5 hn ⟨t5, t6, t7, ls', kvs, rfl, e5, hW5, hY5, hL5, hl5, hR5, hk5⟩ ⟨rfl, hz⟩
    have hnT : n < T0 := by rw [List.length_reverse, hxl] at hn; exact hn
    rw [List.getElem?_reverse (by rw [hxl]; exact hnT), hxl] at hz
    obtain ⟨dd, hdd, hyd⟩ := (hS3.ex e5).get hz
    obtain ⟨s, hs, rfl⟩ := mapD_get hdd
    have hkT : T0 - 1 - n < T0 := by omega
    obtain rfl : s = g (T0 - 1 - n) := by
      rw [List.getElem?_map, List.getElem?_range hkT] at hs
      exact (Option.some.inj hs).symm
    obtain ⟨v, hv, hvd⟩ := h7.get (fun a b' ha hb e => hT.inj a b' ha hb e) hkT
    obtain ⟨aW, oW, xW, rfl, hX1, hX2, hX3⟩ := (hvd.ex e5).tupI
    -- the rank of the standing ahead
    have hways : (wys d tb b (g (T0 - 1)) = [] ∧ n = 0 ∧ wys d tb b (g (T0 - 1 - n)) = []) ∨ (wys d tb b (g (T0 - 1)) = [] ∧ 0 < n ∧ ∃ c, wys d tb b (g (T0 - 1 - n)) = [(c, g (T0 - 1 - (n - 1)))]) ∨ (wys d tb b (g (T0 - 1)) ≠ [] ∧ ∃ x, wys d tb b (g (T0 - 1 - n)) = [x]) := by
      by_cases hw : wys d tb b (g (T0 - 1)) = []
      · by_cases hn0 : n = 0
        · subst hn0; exact .inl ⟨hw, rfl, hw⟩
        · refine .inr (.inl ⟨hw, by omega, lt d tb b (T0 - 1 - n), ?_⟩)
          have := hT.step (T0 - 1 - n) (by omega)
          rw [show T0 - 1 - n + 1 = T0 - 1 - (n - 1) by omega] at this
          exact this
      · refine .inr (.inr ⟨hw, ?_⟩)
        by_cases hn0 : n = 0
        · subst hn0
          rcases hT.last with h | ⟨j, _, h⟩
          · exact absurd h hw
          · exact ⟨_, h⟩
        · exact ⟨_, hT.step (T0 - 1 - n) (by omega)⟩
    obtain ⟨bh, hbh⟩ : ∃ bh : List Int, bh = if wys d tb b (g (T0 - 1)) = [] then (if n = 0 then [] else [(n : Int) - 1]) else [-1] := ⟨_, rfl⟩
    have hbl : xW.length = bh.length := by
      have := hX3.len
      rw [List.length_map] at this
      rw [this, hbh]
      rcases hways with ⟨h1, h2, h3⟩ | ⟨h1, h2, c, h3⟩ | ⟨h1, x, h3⟩
      · rw [h3, if_pos h1, if_pos h2]; rfl
      · rw [h3, if_pos h1, if_neg (by omega)]; rfl
      · rw [h3, if_neg h1]; rfl
    have hval : ∀ x ∈ wys d tb b (g (T0 - 1 - n)), ∃ z, bh = [z] ∧ (valV kvs x.2).getD (.int (-1)) = .int z := by
      intro x hx
      rcases hways with ⟨h1, h2, h3⟩ | ⟨h1, h2, c, h3⟩ | ⟨h1, x', h3⟩
      · rw [h3] at hx; cases hx
      · rw [h3] at hx
        obtain rfl := List.mem_singleton.mp hx
        unfold RkS at hk5
        rw [if_pos h1] at hk5
        refine ⟨_, by rw [hbh, if_pos h1, if_neg (by omega)], ?_⟩
        obtain ⟨v, hv, hv2⟩ := hk5.get (k := n - 1) (fun i j hi hj e => inj i j (by omega) (by omega) e) (by omega)
        rw [hv, hv2]
        show V.int ((n - 1 : Nat) : Int) = V.int ((n : Int) - 1)
        congr 1; omega
      · unfold RkS at hk5
        rw [if_neg h1] at hk5
        refine ⟨_, by rw [hbh, if_neg h1], ?_⟩
        rw [TabS.no hk5 (s := x.2) (fun k hk => by omega)]; rfl
    refine ⟨_, rfl, a, cl.O, dx, fs, _, rfl, e5 _ _ h1, T.c_O, T.n_O_ways, h5, _, rfl, ix_n (h6.ex e5).r hyd.ks.dp hv ⟨aW, rfl, ⟨_, .inl (.inr ⟨oW, hX1⟩)⟩, fun D nD => ?_⟩⟩
    refine lc_gen (walk_tup (xs := xW)) (fun j acc H => acc = (bh.take j).map V.int) (fun _ _ _ _ t h => h) nD rfl (fun H2 e => .inl (.inr ⟨oW, e _ _ hX1⟩)) ?_ ?_
    · rintro j y acc H6 H7 hj l1 hD e6 rfl ⟨rfl, hy⟩
      refine ⟨rfl, yT ?_⟩
      obtain ⟨dd, hdd, hxd⟩ := (hX3.ex e6).get hy
      obtain ⟨x, hx, rfl⟩ := mapD_get hdd
      obtain ⟨z, hz1, hz2⟩ := hval x (List.mem_of_getElem? hx)
      rw [hz1] at hbl
      obtain rfl : j = 0 := by rw [hbl] at hj; simpa using hj
      refine ⟨_, rfl, ty_n (hR5.ex e6).r, _, rfl, ix_d hxd (i := 1) (d := dStd x.2) rfl fun v8 hv8 => ⟨1, rfl, get_n (hR5.ex e6).r (Dt.ks (s := x.2) hv8).dp ?_⟩⟩
      rw [hz2]
      refine LcN.mk (fun _ _ _ _ t h => h) nD hD e6 (Ex.refl _) l1 (by decide) ?_
      show _ = (bh.take 1).map V.int
      rw [hz1]; rfl
    rintro ys H6 e6 hD hl rfl
    rw [hbl, List.take_length] at hD
    refine gN_ ?_
    refine ⟨1, rfl, _, rfl, in_li (r := bh) (sq_of hD) ⟨_, rfl, iB (b := decide (wys d tb b (g (T0 - 1)) ≠ [])) ?_ (fun e => ?_) (fun e => ?_)⟩⟩
    · rw [hbh]
      rcases hways with ⟨h1, h2, h3⟩ | ⟨h1, h2, c, h3⟩ | ⟨h1, x, h3⟩
      · rw [if_pos h1, if_pos h2, decide_eq_false (fun h => h h1)]; rfl
      · rw [if_pos h1, if_neg (by omega), decide_eq_false (fun h => h h1)]
        show ((-1 : Int) == (n : Int) - 1 || false) = false
        rw [Bool.or_false, beq_eq_false_iff_ne]; omega
      · rw [if_neg h1, decide_eq_true h1]; rfl
    · have hw := of_decide_eq_true e
      have hL6 := e6 _ _ hL5
      refine ⟨_, rfl, .inl ⟨rfl, _, sq_of hL6⟩, _, rfl, L, _, _, rfl, rfl, hL6, by rw [hl5, if_neg hw, sizeLine_eq]; omega, ?_⟩
      have t7' : Tp H6 (upd H6 L (.lst (ls' ++ [z]))) := Tp.upd (Sft.lst hL6)
      refine ⟨_, _, _, ls' ++ [z], kvs, rfl, (e5.trans e6).mut nL, by rw [upd_ne neWL]; exact e6 _ _ hW5, by rw [upd_ne (Ne.symm neLY)]; exact e6 _ _ hY5, upd_same, by rw [List.length_append, hl5, if_neg hw, if_neg hw]; rfl, (hR5.ex e6).at (upd_ne neRL) t7', ?_⟩
      unfold RkS at hk5 ⊢
      rw [if_neg hw] at hk5 ⊢
      exact hk5
    · have hw : wys d tb b (g (T0 - 1)) = [] := Decidable.not_not.mp (of_decide_eq_false e)
      refine ⟨1, rfl, _, rfl, D, bh.map V.int, rfl, .inr (sq_of hD), ?_⟩
      have hb1 : bh.length ≤ 1 := by rw [hbh]; split <;> (try split) <;> first | exact Nat.le_refl 1 | exact Nat.zero_le 1
      refine ⟨by rw [List.append_nil, List.length_cons, List.length_map, sizeLine_eq]; omega, fun l hl => ⟨l, -1 :: bh, rfl, sq_of (by rw [List.append_nil]; exact upd_same), by simp, fun m hm1 hm2 => ?_⟩⟩
      have hmn : m + 1 = (n : Int) := by
        rw [hbh, if_pos hw] at hm1 hm2
        by_cases hn0 : n = 0
        · rw [if_pos hn0] at hm1
          have := List.mem_singleton.mp hm1
          omega
        · rw [if_neg hn0] at hm1 hm2
          have h3 := hm2 ((n : Int) - 1) (by simp)
          rcases List.mem_cons.mp hm1 with h | h
          · omega
          · have := List.mem_singleton.mp h
            omega
      have e7 : Ex H6 (upd H6 l (.lst ((fun i => V.int (-i)) 1 :: (List.map V.int bh ++ [])))) := Ex.new hl
      obtain ⟨H7, eH7⟩ : ∃ H7, H7 = upd H6 l (.lst ((fun i => V.int (-i)) 1 :: (List.map V.int bh ++ []))) := ⟨_, rfl⟩
      have hR7 := (hR5.ex e6).ex e7
      have e57 := (e5.trans e6).trans e7
      have hW7 := e7 _ _ (e6 _ _ hW5)
      have hY7 := e7 _ _ (e6 _ _ hY5)
      have hL7 := e7 _ _ (e6 _ _ hL5)
      have hyd7 := (hyd.ex e6).ex e7
      rw [← eH7] at e7 hR7 e57 hW7 hY7 hL7 hyd7 ⊢
      unfold RkS at hk5
      rw [if_pos hw] at hk5
      refine add_i ⟨_, rfl, _, rfl, set_n (k := g (T0 - 1 - n)) hR7 (by rw [hk5.1, sizeLine_eq]; omega) hyd7.ks fun o hnd => ?_⟩
      rw [hmn] at hnd
      have t8 : Tp H7 (upd H7 R o) := Tp.upd hR7.sft
      refine ⟨_, _, _, ls', _, rfl, e57.mut neR, by rw [upd_ne (Ne.symm neRW)]; exact hW7, by rw [upd_ne (Ne.symm neRY)]; exact hY7, by rw [upd_ne (Ne.symm neRL)]; exact hL7, by rw [hl5, if_pos hw, if_pos hw], hnd, ?_⟩
      unfold RkS
      rw [if_pos hw]
      exact TabS.put hk5 (fun k hk e => by have := inj k n (by omega) hnT e; omega) rfl
  · rintro σ H3 ⟨t5, t6, t7, ls', kvs, rfl, e5, hW5, hY5, hL5, hl5, hR5, hk5⟩
    rw [List.length_reverse, hxl] at hl5 hk5
    refine ⟨_, rfl, len_l (sq_of hL5) ⟨_, rfl, len_l (sq_of hW5) ⟨_, _, rfl, rfl, ?_⟩⟩⟩
    refine ⟨_, rfl, L, ls', rfl, sq_of hL5, fun W2 hW2' => ?_⟩
    have e6 := Ex.new (o := HO.lst ls'.reverse) hW2'
    by_cases hw : wys d tb b (g (T0 - 1)) = []
    · rw [if_pos hw] at hl5
      obtain rfl := List.length_eq_zero_iff.mp hl5
      exact ⟨1, by omega, W2, _, _, _, _, _, [], kvs, rfl, e5.trans e6, upd_same, hR5.ex e6, .inr (.inl ⟨rfl, by rw [hxl]; exact decide_eq_true (show ((0 : Nat) : Int) < (T0 : Int) by omega), rfl, hk5⟩)⟩
    · rw [if_neg hw] at hl5
      exact ⟨0, by omega, W2, _, _, _, _, _, ls'.reverse, kvs, rfl, e5.trans e6, upd_same, hR5.ex e6, .inr (.inr ⟨rfl, by rw [hxl, hl5]; exact decide_eq_false (by omega), hk5⟩)⟩
end
end L2
set_option Elab.async false
set_option linter.all false
set_option maxRecDepth 100000
set_option maxHeartbeats 4000000
namespace L2
open PySem PySem.Spec PyProof.Rows Evl
/-- letters of the walk from k on -/
def lw (d : Wd) (tb : List (List (Nat × Nat))) (b : Int) (k i : Nat) : List Nat := (List.range i).map fun m => lt d tb b (k + m)
theorem lw_succ {d : Wd} {tb : List (List (Nat × Nat))} {b : Int} {k i : Nat} : lw d tb b k (i + 1) = lw d tb b k i ++ [lt d tb b (k + i)] := by simp [lw, List.range_succ]
theorem lw_length {d : Wd} {tb : List (List (Nat × Nat))} {b : Int} {k i : Nat} : (lw d tb b k i).length = i := by simp [lw]
theorem lw_drop {d : Wd} {tb : List (List (Nat × Nat))} {b : Int} {k n : Nat} (h : k ≤ n) : lw d tb b k (n - k) = (lets d tb b n).drop k := by
  apply List.ext_getElem
  · rw [lw_length, List.length_drop, lets_length]
  · intro i h1 h2
    simp [lw, lets]
theorem valV_none1 {κ : Type} [DecidableEq κ] {k s : κ} {v : V} (h : k ≠ s) : valV [(k, v)] s = none := by
  unfold valV
  rw [List.find?_cons_of_neg (by simpa using h)]; rfl
section
variable {P : Program} {w : World} {K : PySem.W.Frag} {mg : Str → Option Value} {base : Heap} {f : Addr} {fd : FuncData} {cl : Cls6}
abbrev s_least_loop : Stmt := top 65
abbrev N_least_loop : List Str := ["outlook", "start", "level", "there", "found", "ahead", "standing", "letter", "word", "goal"]
theorem sc_least_loop : FnScope N_least_loop ["outlook", "start"] (defScope s_least_loop) := ⟨rfl, rfl, rfl, by decide +kernel, rfl, by decide +kernel, by decide +kernel⟩
def sp_least_loop (P : Program) (w : World) (K : PySem.W.Frag) (cl : Cls6) : Sp := fun vs H Q _ => ∃ (a : Addr) (x : V) (d : Wd) (b : Int) (tb : List (List (Nat × Nat))) (ls : List Nat) (many : Nat) (g : Nat → Std) (T k j : Nat), vs = [.ref a, x] ∧ OutAt P w K cl H a d b tb g T ∧ CdOk d b tb ls many ∧ Trl d tb b many g T ∧
  Dt H x (dStd (g k)) ∧ k ≤ j ∧ j < T ∧ wys d tb b (g (T - 1)) = [(lt d tb b (T - 1), g j)] ∧
  ∀ v H', Ex H H' → v = (if k = j then V.str (tx ((lets d tb b T).drop j)) else .non) → Q v H'
theorem ok_least_loop  (T : Txt K mg cl) (F : FnP K "least_loop" "least_loop" s_least_loop [] f fd)  : FnOk P w K mg base CX0 1 f fd ["outlook", "start"] ((sp_least_loop P w K cl)) := by
  refine F.ok sc_least_loop (fun vs H Q E h => ?_) (fun cdv A outer s H vs Q E hr h => ?_)
  · unfold sp_least_loop at h; (repeat obtain ⟨_, h⟩ := h); subst_vars; rfl
  have hu := hr.units
  refine ⟨_, PSs.nox (pss_cons (ps_set (i := 2) sc_least_loop.nd rfl (Or.inl rfl) (pe_lst (pa_cons (pe_tupN (pa_cons pe_str (pa_cons (pv 1) pa_nil))) pa_nil)))
      (pss_cons (ps_set (i := 3) sc_least_loop.nd rfl (Or.inl rfl) pe_dnewN)
      (pss_cons (ps_while PassesOwn.never (pt_truR (tru_A (P := P) (w := w) (K := K)) (pv 2)) (pss_cons (ps_set (i := 4) sc_least_loop.nd rfl (Or.inr rfl) pe_dnewN)
      (pss_cons (ps_for PassesOwn.never rfl (pi_list (pv 2)) (pg_tup rfl (pgs_cons (pg_name (i := 5) sc_least_loop.nd rfl (Or.inl rfl)) (pgs_cons (pg_name (i := 6) sc_least_loop.nd rfl (Or.inl rfl)) pgs_nil))) (pss_one (ps_for PassesOwn.never rfl (pi_tup (pe_ix (ix_A (P := P) (w := w) (K := K) hu) (pe_fld (pv 0) rfl) (pv 6) (fun _ _ => rfl))) (pg_tup rfl (pgs_cons (pg_name (i := 7) sc_least_loop.nd rfl (Or.inl rfl)) (pgs_cons (pg_name (i := 9) sc_least_loop.nd rfl (Or.inl rfl)) pgs_nil))) (pss_cons (ps_set (i := 8) sc_least_loop.nd rfl (Or.inl rfl) (pe_op (op_addA (K := K)) (pv 5) (pv 7)))
      (pss_one (ps_if (PW.pt (pw_and (pt_cmpR (op_notInA (P := P) (w := w) (K := K) hu) (pv 9) (pv 3) (by rfl)) (pw_and1 (PW.pt (pw_or (pt_cmpR (op_notInA (P := P) (w := w) (K := K) hu) (pv 9) (pv 4) (by rfl)) (pw_or1 (pt_cmpR op_lt (pv 8) (pe_ix (ix_A (P := P) (w := w) (K := K) hu) (pv 4) (pv 9) (fun _ _ => rfl)) (nomark _)))))))) (pss_one (ps_asg (pv 8) (pg_sub (pv 4) (pv 9) (set_A (P := P) (w := w) (K := K) hu)))) pss_nil))))))
      (pss_cons (ps_if (pt_cmpR (op_inA (P := P) (w := w) (K := K) hu) (pv 1) (pv 4) (by rfl)) (pss_one (ps_ret (pe_ix (ix_A (P := P) (w := w) (K := K) hu) (pv 4) (pv 1) (fun _ _ => rfl)))) pss_nil)
      (pss_cons (ps_for PassesOwn.never rfl (pi_list (pe_callTy (call_list_N rfl) (by rfl) T.b_list (by decide +kernel) (pa_cons (pv 4) pa_nil))) (pg_name (i := 9) sc_least_loop.nd rfl (Or.inl rfl)) (pss_one (ps_asg pe_bl (pg_sub (pv 3) (pv 9) (set_A (P := P) (w := w) (K := K) hu)))))
      (pss_one (ps_lock (ps_setLc (i := 2) (own := [("goal", 9)]) rfl sc_least_loop.nd rfl rfl (sw_true rfl rfl rfl (by decide +kernel)) (pi_keysN (pv 4)) (blkOk_by (N := N_least_loop) (sc := defScope s_least_loop) (by decide +kernel)) (fun _ _ _ _ _ => (pg_name (i := 9) sc_least_loop.nd rfl (Or.inl rfl))) (fun _ _ _ _ _ => pts_nil) (fun _ _ _ _ _ => (pe_tupN (pa_cons (pe_ix (ix_A (P := P) (w := w) (K := K) hu) (pv 4) (pv 9) (fun _ _ => rfl)) (pa_cons (pv 9) pa_nil))))))))))))
      (pss_one (ps_ret pe_non))))), ?_⟩
  obtain ⟨a, x, d, b, tb, ls, many, g, T0, k, j, rfl, hO, hc, hT, hx, hkj, hjT, hlast, q⟩ := h
  have t391 := hT.t391
  have t1 := hT.t1
  obtain ⟨dx, fs, qc, qw, kc, kw, vs, h1, h2, h3, h4, h5, h6, h7, h8, h9⟩ := hO.ex
  refine ⟨_, rfl, tupN_d (ds := [.str "", dStd (g k)]) (.cons (.str _) (.cons hx .nil)) (by show 2 ≤ 100; decide) fun v1 H1 e1 hv1 => ⟨by show 1 ≤ sizeLine; decide, fun Lv hLv => ?_⟩⟩
  have e2 : Ex H1 (upd H1 Lv (.lst [v1])) := Ex.new hLv
  intro Te hTe hTem
  have e3 : Ex (upd H1 Lv (.lst [v1])) (upd (upd H1 Lv (.lst [v1])) Te (NdO P w Te [])) := Ex.new hTe
  have nT : H Te = none := fresh_back (e1.trans e2) hTe
  have injg : ∀ m n, m < T0 → n < T0 → g m = g n → m = n := hT.inj
  refine ⟨fun m σ H2 => ∃ (Lv : Addr) (t4 t5 t6 t7 t8 t9 : Option V) (kt : List (Std × V)) (i : Nat), σ = [some (.ref a), some x, some (.ref Lv), some (.ref Te), t4, t5, t6, t7, t8, t9] ∧ Ex H H2 ∧ ND eStd P w K H2 Te kt ∧
      ((m = T0 - k - i ∧ k + i < T0 ∧ TabS (fun _ _ => True) (fun m => g (k + 1 + m)) kt i ∧ ∃ y, H2 Lv = some (.lst [y]) ∧ Dt H2 y (.tuple [.str (tx (lw d tb b k i)), dStd (g (k + i))])) ∨ (m = 0 ∧ k ≠ j ∧ H2 Lv = some (.lst []))),
    ⟨T0 - k - 0, Lv, none, none, none, none, none, none, [], 0, rfl, (e1.trans e2).trans e3, nd_nil upd_same hTem, .inl ⟨rfl, by omega, ⟨rfl, fun k hk => by omega⟩, v1, e3 _ _ upd_same, (hv1.ex e2).ex e3⟩⟩, ?_⟩
  rintro m σ H2 ⟨Lv, t4, t5, t6, t7, t8, t9, kt, i, rfl, e4, hTe4, hm⟩
  rcases hm with ⟨rfl, hki, hkt, y, hL4, hy4⟩ | ⟨rfl, hne, hL4⟩
  rotate_left
  · refine ⟨_, rfl, tru_v (k := false) (.inl ⟨[], sq_of hL4, rfl⟩) (iF ?_)⟩
    exact q _ _ e4 (by rw [if_neg hne])
  refine ⟨_, rfl, tru_v (k := true) (.inl ⟨[y], sq_of hL4, rfl⟩) (iT ⟨fun σ' H' => ∃ m', m' < T0 - k - i ∧ _, fun _ _ h => h, ?_⟩)⟩
  intro F hF hFm
  have hF' : H2 F = none := hF
  have e5 : Ex H2 (upd H2 F (NdO P w F [])) := Ex.new hF'
  have nF : H F = none := fresh_back e4 hF'
  have neTF : Te ≠ F := fun z => by obtain ⟨xs, hz⟩ := hTe4.out; rw [z, hF'] at hz; cases hz
  have neLF : Lv ≠ F := fun z => by rw [z, hF'] at hL4; cases hL4
  have neLT : Lv ≠ Te := fun z => by obtain ⟨xs, hz⟩ := hTe4.out; rw [← z, hL4] at hz; cases hz
  have hF5 : ND eStd P w K (upd H2 F (NdO P w F [])) F [] := nd_nil upd_same hFm
  have hT5 := hTe4.ex e5
  have hL5 := e5 _ _ hL4
  have hy5 := hy4.ex e5
  have e45 := e4.trans e5
  obtain ⟨H5, eH5⟩ : ∃ H5, H5 = upd H2 F (NdO P w F []) := ⟨_, rfl⟩
  refine gN_ ?_
  dsimp only
  refine (?_ : tFor _ _ _ _ _ (upd H2 F (NdO P w F [])))
  rw [← eH5] at e5 hF5 hT5 hL5 hy5 e45 ⊢
  -- the way on
  obtain ⟨gl, hgl, hnew⟩ : ∃ gl, wys d tb b (g (k + i)) = [(lt d tb b (k + i), gl)] ∧ ((k + 1 + i < T0 ∧ gl = g (k + 1 + i) ∧ valV kt gl = none) ∨ (k + 1 + i = T0 ∧ k = j ∧ gl = g k ∧ valV kt gl = none) ∨ (k + 1 + i = T0 ∧ k ≠ j ∧ gl = g j ∧ ∃ v, valV kt gl = some v)) := by
    by_cases hl : k + i + 1 < T0
    · have hs := hT.step (k + i) hl
      rw [show k + i + 1 = k + 1 + i by omega] at hs
      refine ⟨_, hs, .inl ⟨by omega, rfl, hkt.no fun m hm e => ?_⟩⟩
      have := injg _ _ (by omega) (by omega) e
      omega
    · have hl2 : k + i = T0 - 1 := by omega
      rw [← hl2] at hlast
      refine ⟨_, hlast, .inr ?_⟩
      by_cases hkj' : k = j
      · refine .inl ⟨by omega, hkj', by rw [hkj'], hkt.no fun m hm e => ?_⟩
        have := injg _ _ (by omega) (by omega) e
        omega
      · refine .inr ⟨by omega, hkj', rfl, ?_⟩
        obtain ⟨v, hv, _⟩ := hkt.get (k := j - (k + 1)) (fun m n hm hn e => by have := injg _ _ (by omega) (by omega) e; omega) (by omega)
        rw [show k + 1 + (j - (k + 1)) = j by omega] at hv
        exact ⟨v, hv⟩
  obtain ⟨wd, ewd⟩ : ∃ wd : Str, wd = tx (lw d tb b k (i + 1)) := ⟨_, rfl⟩
  obtain ⟨fin, efin⟩ : ∃ fin : List (Std × V), fin = if valV kt gl = none then [(gl, .str wd)] else [] := ⟨_, rfl⟩
  obtain ⟨vw, hval, hvw⟩ := h7.get (fun a b' ha hb e => hT.inj a b' ha hb e) hki
  obtain ⟨aW, oW, xW, rfl, hW1, _, hWd⟩ := (hvw.ex e45).tupI
  rw [hgl] at hWd
  have hlen : xW.length = 1 := by have := hWd.len; simpa using this
  obtain ⟨aY, oY, xY, rfl, hY1, hY2, hY3⟩ := hy5.tupI
  refine ⟨_, rfl, Lv, rfl, ⟨_, sq_of hL5⟩, ?_⟩
  refine for_it (walk_list (xs := [V.ref aY])) (fun n σ H3 => ∃ t5 t6 t7 t8 t9, σ = [some (.ref a), some x, some (.ref Lv), some (.ref Te), some (.ref F), t5, t6, t7, t8, t9] ∧ Ex H H3 ∧ Tp H5 H3 ∧ H3 Lv = some (.lst [.ref aY]) ∧ ND eStd P w K H3 Te kt ∧ ND eStd P w K H3 F (if n = 0 then [] else fin))
    ⟨t5, t6, t7, t8, t9, rfl, e45, Tp.refl _, hL5, hT5, hF5⟩ (fun n σ H2 _ ⟨_, _, _, _, _, _, _, _, h, _⟩ => sq_of h) ?_ ?_
  · rintro n z σ H3 H6 hn ⟨t5, t6, t7, t8, t9, rfl, e6, p6, hL6, hT6, hF6⟩ ⟨rfl, hz⟩
    obtain rfl : n = 0 := by simp at hn; omega
    obtain rfl : V.ref aY = z := by simpa using hz
    cases hY3 with
    | cons g1 hY3 => cases hY3 with
    | cons g2 hY3 =>
    cases hY3
    obtain rfl := g1.strI
    rename_i vs
    refine ⟨aY, _, rfl, .inl (.inr ⟨oY, p6.2 _ _ _ hY1⟩), rfl, _, _, rfl, _, _, rfl, rfl, ?_⟩
    have g4 := g2.tp p6
    refine ⟨_, rfl, a, cl.O, dx, fs, _, rfl, e6 _ _ h1, T.c_O, T.n_O_ways, h5, _, rfl, ix_n (h6.ex e6).r (Dt.ks (s := g (k + i)) g4).dp hval ⟨aW, rfl, ⟨_, .inl (.inr ⟨oW, p6.2 _ _ _ hW1⟩)⟩, ?_⟩⟩
    refine for_it (walk_tup (xs := xW)) (fun n σ H3 => ∃ t7 t8 t9, σ = [some (.ref a), some x, some (.ref Lv), some (.ref Te), some (.ref F), some (.str (tx (lw d tb b k i))), some vs, t7, t8, t9] ∧ Ex H H3 ∧ Tp H5 H3 ∧ H3 Lv = some (.lst [.ref aY]) ∧ ND eStd P w K H3 Te kt ∧ ND eStd P w K H3 F (if n = 0 then [] else fin))
      ⟨t7, t8, t9, rfl, e6, p6, hL6, hT6, hF6⟩ (fun n σ H2 _ ⟨_, _, _, _, _, t, _⟩ => .inl (.inr ⟨oW, t.2 _ _ _ hW1⟩)) ?_ ?_
    · rintro n z σ H3 H7 hn ⟨t7, t8, t9, rfl, e7, p7, hL7, hT7, hF7⟩ ⟨rfl, hz⟩
      obtain rfl : n = 0 := by rw [hlen] at hn; omega
      cases hWd with
      | cons hx1 hx2 =>
      cases hx2
      rename_i vx
      obtain rfl : vx = z := by simpa using hz
      obtain ⟨aG, oG, xG, rfl, hG1, hG2, hG3⟩ := (hx1.tp p7).tupI
      cases hG3 with
      | cons k1 hG3 => cases hG3 with
      | cons k2 hG3 =>
      cases hG3
      obtain rfl := k1.strI
      rename_i vg
      have k3 : Dt H7 vg (dStd gl) := k2
      refine ⟨aG, _, rfl, .inl (.inr ⟨oG, hG1⟩), rfl, _, _, rfl, _, _, rfl, rfl, ?_⟩
      refine ⟨_, rfl, _, rfl, add_s (by rw [tx_length, lw_length, sizeLine_eq]; show i + 1 ≤ _; omega) (gN_ ?_)⟩
      rw [tx_ch, ← lw_succ, ← ewd]
      cases hv : valV kt gl with
      | none =>
        refine ⟨_, rfl, _, rfl, ni_n hT7.r k3.ks.dp ⟨_, rfl, iP (by rw [hv]; rfl) ⟨_, rfl, _, rfl, ni_n hF7.r k3.ks.dp ⟨_, rfl, iP rfl (iT ?_)⟩⟩⟩⟩
        refine ⟨_, rfl, _, rfl, _, rfl, set_n hF7 (by show 0 < sizeLine; decide) k3.ks fun o hnd => ?_⟩
        have p8 : Tp H7 (upd H7 F o) := Tp.upd hF7.sft
        rw [hv, if_pos rfl] at efin
        exact ⟨_, _, _, rfl, e7.mut nF, p7.trans p8, by rw [upd_ne neLF]; exact hL7, hT7.at (upd_ne neTF) p8, by rw [efin]; exact hnd⟩
      | some v =>
        refine ⟨_, rfl, _, rfl, ni_n hT7.r k3.ks.dp ⟨_, rfl, iN (by rw [hv]; rfl) (iF ?_)⟩⟩
        rw [hv, if_neg (fun h => by cases h)] at efin
        exact ⟨_, _, _, rfl, e7, p7, hL7, hT7, by rw [efin]; exact hF7⟩
    · rintro σ H7 ⟨t7, t8, t9, rfl, e7, p7, hL7, hT7, hF7⟩
      rw [hlen] at hF7
      exact ⟨_, _, _, _, _, rfl, e7, p7, hL7, hT7, hF7⟩
  rintro σ H6 ⟨t5, t6, t7, t8, t9, rfl, e6, p6, hL6, hT6, hF6⟩
  have hF6 : ND eStd P w K H6 F fin := hF6
  have hst : valV fin (g k) = if k + 1 + i = T0 ∧ k = j then some (.str wd) else none := by
    rw [efin]
    rcases hnew with ⟨n1, rfl, n2⟩ | ⟨n1, n2, rfl, n3⟩ | ⟨n1, n2, rfl, v, n3⟩
    · rw [if_pos n2, if_neg (fun z => by omega)]
      exact valV_none1 fun e => by have := injg _ _ (by omega) (by omega) e; omega
    · rw [if_pos n3, if_pos ⟨n1, n2⟩]
      exact valV_pos rfl
    · rw [n3, if_neg (fun z => by cases z), if_neg (fun z => n2 z.2)]; rfl
  have hx6 := (hx.ex e6)
  refine ⟨_, rfl, _, rfl, in_n hF6.r (Dt.ks (s := g k) hx6).dp ⟨_, rfl, iB (b := decide (k + 1 + i = T0 ∧ k = j)) ?_ (fun e => ?_) (fun e => ?_)⟩⟩
  · rw [hst]
    by_cases z : k + 1 + i = T0 ∧ k = j
    · rw [if_pos z, decide_eq_true z]; rfl
    · rw [if_neg z, decide_eq_false z]; rfl
  · have z := of_decide_eq_true e
    rw [if_pos z] at hst
    refine ⟨_, rfl, _, rfl, ix_n hF6.r (Dt.ks (s := g k) hx6).dp hst (q _ _ e6 ?_)⟩
    rw [if_pos z.2, ewd, ← z.2, ← lw_drop (by omega : k ≤ T0)]
    congr 3
    omega
  have z := of_decide_eq_false e
  have hfin : fin = [] ∨ (k + 1 + i < T0 ∧ fin = [(g (k + 1 + i), V.str wd)]) := by
    rw [efin]
    rcases hnew with ⟨n1, rfl, n2⟩ | ⟨n1, n2, rfl, n3⟩ | ⟨n1, n2, rfl, v, n3⟩
    · exact .inr ⟨n1, by rw [if_pos n2]⟩
    · exact absurd ⟨n1, n2⟩ z
    · exact .inl (by rw [n3, if_neg (fun z => by cases z)])
  have hfin2 : fin = [] → k ≠ j := fun hf => by
    rcases hnew with ⟨n1, rfl, n2⟩ | ⟨n1, n2, rfl, n3⟩ | ⟨n1, n2, rfl, v, n3⟩
    · rw [n2, if_pos rfl, hf] at efin; cases efin
    · exact absurd ⟨n1, n2⟩ z
    · exact n2
  refine nx_ ?_
  refine ⟨_, rfl, Std, inferInstance, eStd, F, fin, rfl, hF6.r, fun L bs hL hbs => ⟨L, rfl, ⟨_, sq_of upd_same⟩, ?_⟩⟩
  have e7 : Ex H6 (upd H6 L (.lst bs)) := Ex.new hL
  have neTL : Te ≠ L := fun z => by obtain ⟨xs, hz⟩ := hT6.out; rw [z, hL] at hz; cases hz
  have hbl : bs.length = fin.length := by have := hbs.len; rwa [List.length_map] at this
  refine for_it (walk_list (xs := bs)) (fun n σ H3 => ∃ t9 kt', σ = [some (.ref a), some x, some (.ref Lv), some (.ref Te), some (.ref F), t5, t6, t7, t8, t9] ∧ Ex H H3 ∧ Tp H6 H3 ∧ H3 L = some (.lst bs) ∧ ND eStd P w K H3 Te kt' ∧ TabS (fun _ _ => True) (fun m => g (k + 1 + m)) kt' (i + n) ∧ ND eStd P w K H3 F fin)
    ⟨t9, kt, rfl, e6.trans e7, Tp.of e7, upd_same, hT6.ex e7, hkt, hF6.ex e7⟩ (fun n σ H2 _ ⟨_, _, _, _, _, h, _⟩ => sq_of h) ?_ ?_
  · rintro n y σ H3 H7 hn ⟨t9, kt', rfl, e8, p8, hL8, hT8, hk8, hF8⟩ ⟨rfl, hy⟩
    obtain ⟨dd, hdd, hyd⟩ := hbs.get hy
    obtain ⟨kv, hkv, rfl⟩ := mapD_get hdd
    rcases hfin with hf | ⟨hlt, hf⟩
    · rw [hf] at hkv; cases hkv
    rw [hf] at hbl hkv
    obtain rfl : n = 0 := by rw [hbl] at hn; simpa using hn
    obtain rfl := (Option.some.inj hkv).symm
    refine ⟨_, rfl, _, rfl, set_n (k := g (k + 1 + i)) hT8 (by rw [hk8.1, sizeLine_eq]; omega) (hyd.tp p8) fun o hnd => ?_⟩
    have p9 : Tp H7 (upd H7 Te o) := Tp.upd hT8.sft
    refine ⟨_, _, rfl, e8.mut nT, p8.trans p9, by rw [upd_ne (Ne.symm neTL)]; exact hL8, hnd, TabS.put hk8 (fun m hm e => ?_) trivial, hF8.at (upd_ne (Ne.symm neTF)) p9⟩
    have := injg _ _ (by omega) (by omega) e
    omega
  rintro σ H7 ⟨t9, kt', rfl, e8, p8, hL8, hT8, hk8, hF8⟩
  obtain ⟨xF, hxF, hFm8, hFz, hFn, hFk⟩ := id hF8
  refine ⟨F, _, hxF, trivial, fun od => ?_⟩
  have tl : Tp H7 (upd H7 F (.frz od (NdO P w F xF))) := Tp.upd (by rw [hxF]; trivial)
  have hz : NDz eStd P w K (upd H7 F (.frz od (NdO P w F xF))) F od fin := ⟨xF, upd_same, hFm8, hFz, hFn, hFk.tp tl⟩
  refine ⟨_, rfl, Std, inferInstance, eStd, F, od, _, rfl, hz, fun D nD => ?_⟩
  have zex : ∀ H2, Ex (upd H7 F (.frz od (NdO P w F xF))) H2 → NDz eStd P w K H2 F od fin := fun H2 e => hz.tp (Tp.of e)
  refine lc_gen (walk_keysN (kvs := fin)) (fun j acc H => DtAll H acc ((fin.map fun kv => PyData.tuple [.str wd, dStd kv.1]).take j)) (fun _ _ _ _ t h => h.tp t) nD .nil zex ?_ ?_
  · rintro j' y acc H8 H9 hj l1 hD e9 hacc ⟨rfl, kk, v, hkv, hy⟩
    rcases hfin with hf | ⟨hlt, hf⟩
    · rw [hf] at hkv; cases hkv
    rw [hf] at hkv hj hacc zex ⊢
    obtain rfl : j' = 0 := by simpa using hj
    obtain ⟨rfl, rfl⟩ : kk = g (k + 1 + i) ∧ v = V.str wd := by
      have := Option.some.inj hkv
      exact ⟨(congrArg Prod.fst this).symm, (congrArg Prod.snd this).symm⟩
    refine ⟨rfl, yT ⟨_, rfl, _, rfl, ix_n (zex _ e9).r hy.dp (valV_pos rfl) ⟨_, rfl, ?_⟩⟩⟩
    refine tupN_d (ds := [.str wd, dStd (g (k + 1 + i))]) (.cons (.str _) (.cons hy.sk .nil)) (by show 2 ≤ 100; decide) fun v9 H10 e10 hv9 => ?_
    refine LcN.mk (fun _ _ _ _ t h => h.tp t) nD hD e9 e10 l1 (by decide) ?_
    cases hacc
    exact .cons hv9 .nil
  rintro ys H8 e9 hD hyl hys
  have neDF : D ≠ F := fun z => by rw [z, upd_same] at nD; cases nD
  have e78 : Ex H7 (upd H8 F (NdO P w F xF)) := ex_unlock hxF e9
  have hys8 := hys.sub (H' := upd H8 F (NdO P w F xF)) (fun c o xs h => by
    have : c ≠ F := fun z => by rw [z, e9 _ _ upd_same] at h; cases h
    rw [upd_ne this]; exact h)
  have hD8 : upd H8 F (NdO P w F xF) D = some (.lst ys) := by rw [upd_ne neDF]; exact hD
  refine ⟨e9 _ _ upd_same, ?_⟩
  rcases hfin with hf | ⟨hlt, hf⟩
  · rw [hf] at hys8
    cases hys8
    exact ⟨0, by omega, D, _, _, _, _, _, _, kt', 0, rfl, e8.trans e78, hT8.ex e78, .inr ⟨rfl, hfin2 hf, hD8⟩⟩
  · rw [hf] at hys8
    have hk8 : TabS (fun _ _ => True) (fun m => g (k + 1 + m)) kt' (i + 1) := by rw [hbl, hf] at hk8; exact hk8
    cases hys8 with
    | cons y1 y2 =>
    cases y2
    exact ⟨T0 - k - (i + 1), by omega, D, _, _, _, _, _, _, kt', i + 1, rfl, e8.trans e78, hT8.ex e78, .inl ⟨rfl, by omega, hk8, _, hD8, by rw [← ewd, show k + (i + 1) = k + 1 + i by omega]; exact y1⟩⟩
end
end L2
set_option Elab.async false
set_option linter.all false
set_option maxRecDepth 100000
set_option maxHeartbeats 4000000
namespace L2
open PySem PySem.Spec PyProof.Rows Evl
/-- what a verdict says of a breach: nothing where the walk ends, else the loop from place j -/
def brD (d : Wd) (tb : List (List (Nat × Nat))) (b : Int) (T : Nat) : Option Nat → PyData
  | none => .none
  | some j => .tuple [.str "loop", .str (tx (lets d tb b j)), .str (tx ((lets d tb b T).drop j))]
/-- how a trail ends -/
def EndAt (d : Wd) (tb : List (List (Nat × Nat))) (b : Int) (g : Nat → Std) (T : Nat) : Option Nat → Prop
  | none => wys d tb b (g (T - 1)) = []
  | some j => j < T ∧ wys d tb b (g (T - 1)) = [(lt d tb b (T - 1), g j)]
section
variable {P : Program} {w : World} {K : PySem.W.Frag} {mg : Str → Option Value} {base : Heap} {f : Addr} {fd : FuncData} {cl : Cls6}
abbrev s_breach_of : Stmt := top 66
abbrev N_breach_of : List Str := ["outlook", "ranks", "stuck", "standing", "loop"]
theorem sc_breach_of : FnScope N_breach_of ["outlook", "ranks"] (defScope s_breach_of) := ⟨rfl, rfl, rfl, by decide +kernel, rfl, by decide +kernel, by decide +kernel⟩
def sp_breach_of (P : Program) (w : World) (K : PySem.W.Frag) (cl : Cls6) : Sp := fun vs H Q _ => ∃ (a p : Addr) (d : Wd) (b : Int) (tb : List (List (Nat × Nat))) (ls : List Nat) (many : Nat) (g : Nat → Std) (T : Nat) (z : Option Nat) (kvs : List (Std × V)), vs = [.ref a, .ref p] ∧ OutAt P w K cl H a d b tb g T ∧ CdOk d b tb ls many ∧ Trl d tb b many g T ∧
  EndAt d tb b g T z ∧ ND eStd P w K H p kvs ∧ RkS d tb b g T kvs T ∧
  ∀ v H', Ex H H' → Dt H' v (brD d tb b T z) → Q v H'
theorem ok_breach_of  (T : Txt K mg cl) (F : FnP K "breach_of" "breach_of" s_breach_of [] f fd) (P_Outlook_stuck : PDef P w K mg base cl.O "stuck" 1 ((sp_Outlook_stuck P w K cl))) (G_least_loop : GDef P w K mg base "least_loop" 1 ["outlook", "start"] [] ((sp_least_loop P w K cl))) : FnOk P w K mg base CX0 3 f fd ["outlook", "ranks"] ((sp_breach_of P w K cl)) := by
  refine F.ok sc_breach_of (fun vs H Q E h => ?_) (fun cdv A outer s H vs Q E hr h => ?_)
  · unfold sp_breach_of at h; (repeat obtain ⟨_, h⟩ := h); subst_vars; rfl
  have hu := hr.units
  refine ⟨_, PSs.nox (pss_cons (ps_set (i := 2) sc_breach_of.nd rfl (Or.inl rfl) (pe_p P_Outlook_stuck hr (pv 0)))
      (pss_cons (ps_if (pt_truR (tru_A (P := P) (w := w) (K := K)) (pv 2)) (pss_one (ps_ret (pe_tupN (pa_cons pe_str (pa_cons (pe_ix (ix_A (P := P) (w := w) (K := K) hu) (pe_fld (pv 0) rfl) (pe_ix (ix_A (P := P) (w := w) (K := K) hu) (pv 2) pe_int (fun _ _ => rfl)) (fun _ _ => rfl)) pa_nil))))) pss_nil)
      (pss_cons (ps_for PassesOwn.never rfl (pi_tup (pe_fld (pv 0) rfl)) (pg_name (i := 3) sc_breach_of.nd rfl (Or.inl rfl)) (pss_one (ps_if (pt_cmpR (op_notInA (P := P) (w := w) (K := K) hu) (pv 3) (pv 1) (by rfl)) (pss_cons (ps_set (i := 4) sc_breach_of.nd rfl (Or.inl rfl) (pe_g G_least_loop hr (pa_cons (pv 0) (pa_cons (pv 3) pa_nil))))
      (pss_one (ps_if (pt_cmpR op_isNotC (pv 4) pe_non (nomark _)) (pss_one (ps_ret (pe_tupN (pa_cons pe_str (pa_cons (pe_ix (ix_A (P := P) (w := w) (K := K) hu) (pe_fld (pv 0) rfl) (pv 3) (fun _ _ => rfl)) (pa_cons (pv 4) pa_nil)))))) pss_nil))) pss_nil)))
      (pss_one (ps_ret pe_non))))), ?_⟩
  obtain ⟨a, p, d, b, tb, ls, many, g, T0, z, kvs, rfl, hO, hc, hT, hz, hR, hk, q⟩ := h
  have t391 := hT.t391
  have t1 := hT.t1
  obtain ⟨dx, fs, qc, qw, kc, kw, vs, h1, h2, h3, h4, h5, h6, h7, h8, h9⟩ := id hO.ex
  obtain ⟨aS, oS, xS, rfl, hS1, hS2, hS3⟩ := h9.tupI
  refine ⟨_, rfl, a, dx, fs, rfl, h1, a, d, b, tb, ls, many, g, T0, rfl, hO, hc, hT, fun v1 H1 e1 hv1 => ?_⟩
  refine ⟨_, rfl, tru_t (ds := []) hv1.dp (iF ?_)⟩
  refine ⟨_, rfl, a, cl.O, dx, fs, _, rfl, e1 _ _ h1, T.c_O, T.n_O_standings, h8, aS, rfl, ⟨_, .inl (.inr ⟨oS, e1 _ _ hS1⟩)⟩, ?_⟩
  have hxl : xS.length = T0 := by have := hS3.len; simpa using this
  have rk0 : ∀ j, z = some j → ∀ s, valV kvs s = none := fun j hj s => by
    subst hj
    unfold RkS at hk
    rw [hz.2, if_neg (fun h => by cases h)] at hk
    exact hk.no fun k hk => by omega
  have rk1 : z = none → ∀ k, k < T0 → ∃ v, valV kvs (g k) = some v := fun hj k hk' => by
    subst hj
    unfold RkS at hk
    rw [if_pos (show wys d tb b (g (T0 - 1)) = [] from hz)] at hk
    obtain ⟨v, hv, _⟩ := hk.get (k := T0 - 1 - k) (fun i j hi hj e => by have := hT.inj (T0 - 1 - i) (T0 - 1 - j) (by omega) (by omega) e; omega) (by omega)
    rw [show T0 - 1 - (T0 - 1 - k) = k by omega] at hv
    exact ⟨v, hv⟩
  refine for_it (walk_tup (xs := xS)) (fun n σ H3 => ∃ t3 t4, σ = [some (.ref a), some (.ref p), some v1, t3, t4] ∧ Ex H H3 ∧ ∀ j, z = some j → n ≤ j)
    ⟨none, none, rfl, e1, fun j _ => Nat.zero_le _⟩ (fun n σ H2 _ ⟨_, _, _, e, _⟩ => .inl (.inr ⟨oS, e _ _ hS1⟩)) ?_ ?_
  · rintro n y σ H3 H4 hn ⟨t3, t4, rfl, e4, hnj⟩ ⟨rfl, hy⟩
    obtain ⟨dd, hdd, hyd⟩ := (hS3.ex e4).get hy
    obtain ⟨s, hs, rfl⟩ := mapD_get hdd
    have hnT : n < T0 := by rw [hxl] at hn; exact hn
    obtain rfl : s = g n := by
      rw [List.getElem?_map, List.getElem?_range hnT] at hs
      exact (Option.some.inj hs).symm
    cases z with
    | none =>
      obtain ⟨v, hv⟩ := rk1 rfl n hnT
      refine ⟨_, rfl, _, rfl, ni_n (hR.ex e4).r hyd.ks.dp ⟨_, rfl, iN (by rw [hv]; rfl) ?_⟩⟩
      exact ⟨_, _, rfl, e4, fun j hj => by cases hj⟩
    | some j =>
      have hv := rk0 j rfl (g n)
      have hnj := hnj j rfl
      refine ⟨_, rfl, _, rfl, ni_n (hR.ex e4).r hyd.ks.dp ⟨_, rfl, iP (by rw [hv]; rfl) ?_⟩⟩
      refine ⟨_, rfl, _, rfl, a, y, d, b, tb, ls, many, g, T0, n, j, rfl, hO.ext e4, hc, hT, hyd, hnj, hz.1, hz.2, fun v5 H5 e5 hv5 => ?_⟩
      have e45 := e4.trans e5
      by_cases hj : n = j
      · rw [if_pos hj] at hv5
        subst hv5
        refine ⟨_, rfl, rfl, .inl rfl, _, rfl, iP rfl ?_⟩
        obtain ⟨vc, hvc, hvc2⟩ := h4.get (fun a b' ha hb e => hT.inj a b' ha hb e) hnT
        subst hvc2
        refine ⟨_, rfl, a, cl.O, dx, fs, _, rfl, e45 _ _ h1, T.c_O, T.n_O_callings, h2, _, rfl, ix_n (h3.ex e45).r (hyd.ex e5).ks.dp hvc ⟨_, rfl, ?_⟩⟩
        refine tupN_d (ds := [.str "loop", .str (tx (lets d tb b n)), .str (tx ((lets d tb b T0).drop j))]) (.cons (.str _) (.cons (.str _) (.cons (.str _) .nil))) (by show 3 ≤ 100; decide) fun v6 H6 e6 hv6 => q v6 H6 (e45.trans e6) ?_
        rw [hj] at hv6
        exact hv6
      · rw [if_neg hj] at hv5
        subst hv5
        refine ⟨_, rfl, rfl, .inl rfl, _, rfl, iN rfl ?_⟩
        exact ⟨_, _, rfl, e45, fun j' hj' => by cases hj'; omega⟩
  · rintro σ H3 ⟨t3, t4, rfl, e4, hnj⟩
    cases z with
    | none => exact q _ _ e4 .non
    | some j =>
      have := hnj j rfl
      have := hz.1
      omega
end
end L2
set_option Elab.async false
set_option linter.all false
set_option maxRecDepth 100000
set_option maxHeartbeats 4000000
namespace L2
open PySem PySem.Spec PyProof.Rows Evl
theorem Dt.nonI {H : Hp} {v : V} (h : Dt H v .none) : v = .non := by cases h; rfl
/-- a verdict: its breach, and its table of ranks where it holds -/
def dRank (g : Nat → Std) (T k : Nat) : PyData := .tuple [dStd (g k), .int ((T - 1 - k : Nat) : Int)]
def tbD (g : Nat → Std) (T : Nat) : Option Nat → PyData
  | none => .tuple ((List.range T).map (dRank g T))
  | some _ => .none
structure VerAt (cl : Cls6) (H : Hp) (a : Addr) (d : Wd) (b : Int) (tb : List (List (Nat × Nat))) (g : Nat → Std) (T : Nat) (z : Option Nat) : Prop where
  ex : ∃ (dx : Addr) (fs : List (Str × V)) (vb vt : V), H a = some (.ins cl.V dx fs) ∧ lk fs "breach" = some vb ∧ Dt H vb (brD d tb b T z) ∧ lk fs "holds" = some (.bl z.isNone) ∧ lk fs "table" = some vt ∧ Dt H vt (tbD g T z)
theorem VerAt.ext {cl : Cls6} {H H' : Hp} {a : Addr} {d : Wd} {b : Int} {tb : List (List (Nat × Nat))} {g : Nat → Std} {T : Nat} {z : Option Nat} (h : VerAt cl H a d b tb g T z) (e : Ex H H') : VerAt cl H' a d b tb g T z := by
  obtain ⟨dx, fs, vb, vt, h1, h2, h3, h4, h5, h6⟩ := h.ex
  exact ⟨dx, fs, vb, vt, e _ _ h1, h2, h3.ex e, h4, h5, h6.ex e⟩
section
variable {P : Program} {w : World} {K : PySem.W.Frag} {mg : Str → Option Value} {base : Heap} {f : Addr} {fd : FuncData} {cl : Cls6}
abbrev s_RoundVerdict_init : Stmt := inClass (top 67) 0
abbrev N_RoundVerdict_init : List Str := ["self", "book", "outlook", "ranks", "standing"]
theorem sc_RoundVerdict_init : FnScope N_RoundVerdict_init ["self", "book"] (defScope s_RoundVerdict_init) := ⟨rfl, rfl, rfl, by decide +kernel, rfl, by decide +kernel, by decide +kernel⟩
def sp_RoundVerdict_init (K : PySem.W.Frag) (cl : Cls6) : Sp := fun vs H Q _ => ∃ (p dx B M : Addr) (d : Wd) (b : Int) (tb : List (List (Nat × Nat))) (ls : List Nat) (many : Nat) (g : Nat → Std) (T : Nat) (z : Option Nat), vs = [.ref p, .ref B] ∧ H p = some (.ins cl.V dx []) ∧ p ≠ B ∧ p ≠ M ∧ (∀ H', ExB p H H' → BookAt K cl H' B M d b tb many) ∧ CdOk d b tb ls many ∧ Trl d tb b many g T ∧ EndAt d tb b g T z ∧
  ∀ H', ExB p H H' → VerAt cl H' p d b tb g T z → Q .non H'
theorem ok_RoundVerdict_init  (T : Txt K mg cl) (F : FnP K "__init__" "RoundVerdict.__init__" s_RoundVerdict_init [] f fd) (C_Outlook : CDef P w K mg base "Outlook" cl.O 3 ["self", "book"] [] ((sp_Outlook_init P w K cl))) (G_ranks_of : GDef P w K mg base "ranks_of" 1 ["outlook"] [] ((sp_ranks_of P w K cl))) (G_breach_of : GDef P w K mg base "breach_of" 3 ["outlook", "ranks"] [] ((sp_breach_of P w K cl))) : FnOk P w K mg base CX0 5 f fd ["self", "book"] ((sp_RoundVerdict_init K cl)) := by
  refine F.ok sc_RoundVerdict_init (fun vs H Q E h => ?_) (fun cdv A outer s H vs Q E hr h => ?_)
  · unfold sp_RoundVerdict_init at h; (repeat obtain ⟨_, h⟩ := h); subst_vars; rfl
  have hu := hr.units
  refine ⟨_, PSs.nox (pss_cons (ps_set (i := 2) sc_RoundVerdict_init.nd rfl (Or.inl rfl) (pe_c C_Outlook hr (pa_cons (pv 1) pa_nil)))
      (pss_cons (ps_set (i := 3) sc_RoundVerdict_init.nd rfl (Or.inr rfl) (pe_g G_ranks_of hr (pa_cons (pv 2) pa_nil)))
      (pss_cons (ps_fld (pv 0) (pe_g G_breach_of hr (pa_cons (pv 2) (pa_cons (pv 3) pa_nil))) rfl)
      (pss_cons (ps_fld (pv 0) (pe_cmpR op_isC (pe_fld (pv 0) rfl) pe_non (nomark _)) rfl)
      (pss_cons (ps_fld (pv 0) pe_non rfl)
      (pss_cons (ps_fld (pv 0) (pe_tupN pa_nil) rfl)
      (pss_one (ps_if (pt_truR (tru_A (P := P) (w := w) (K := K)) (pe_fld (pv 0) rfl)) (pss_cons (ps_fld (pv 0) (pe_callTy (call_tupN (K := K)) (by rfl) T.b_tuple (by decide +kernel) (pa_cons (pe_lc (own := [("standing", 4)]) rfl sc_RoundVerdict_init.nd (pi_tup (pe_fld (pv 2) rfl)) (blkOk_by (N := N_RoundVerdict_init) (sc := defScope s_RoundVerdict_init) (by decide +kernel)) (fun _ _ _ _ _ => (pg_name (i := 4) sc_RoundVerdict_init.nd rfl (Or.inl rfl))) (fun _ _ _ _ _ => pts_nil) (fun _ _ _ _ _ => (pe_tupN (pa_cons (pv 4) (pa_cons (pe_ix (ix_A (P := P) (w := w) (K := K) hu) (pv 3) (pv 4) (fun _ _ => rfl)) pa_nil))))) pa_nil)) rfl)
      (pss_one (ps_fld (pv 0) (pe_fld (pv 0) rfl) rfl))) pss_nil)))))))), ?_⟩
  obtain ⟨p, dx, B, M, d, b, tb, ls, many, g, T0, z, rfl, hp, hpB, hpM, hB, hc, hT, hz, q⟩ := h
  have t391 := hT.t391
  have t1 := hT.t1
  refine ⟨_, rfl, ?_⟩
  intro O ox nO nox neO
  have e1 : Ex H (upd (upd H ox (.own O)) O (.ins cl.O ox [])) := fun c o hco => by
    rw [upd_ne (ne_of_none hco nO), upd_ne (ne_of_none hco nox)]; exact hco
  obtain ⟨H1, eH1⟩ : ∃ H1, H1 = upd (upd H ox (.own O)) O (.ins cl.O ox []) := ⟨_, rfl⟩
  have hO1 : upd (upd H ox (.own O)) O (.ins cl.O ox []) O = some (.ins cl.O ox []) := upd_same
  have hB0 := hB H (ExB.refl p H)
  have neOB : O ≠ B := fun z => by
    obtain ⟨_, _, _, _, _, hz, _⟩ := hB0.ex
    rw [z, hz] at nO; cases nO
  have neOM : O ≠ M := fun z => by
    obtain ⟨_, _, _, _, _, _, _, hm, _⟩ := hB0.ex
    obtain ⟨_, _, _, _, _, _, _, _, _, _, _, _, hz, _⟩ := hm.ex
    rw [z, hz] at nO; cases nO
  rw [← eH1] at e1 hO1 ⊢
  refine ⟨O, ox, B, M, d, b, tb, ls, many, g, T0, rfl, hO1, neOB, neOM, fun H2 b2 => ?_, hc, hT, fun H2 b2 hOA => ⟨rfl, ?_⟩⟩
  · exact hB H2 ((ExB.refl p H).ext (b2.ex e1 nO))
  have e2 : Ex H H2 := b2.ex e1 nO
  refine ⟨_, rfl, O, d, b, tb, ls, many, g, T0, rfl, hOA, hc, hT, fun R kvs H3 e3 hR hk => ?_⟩
  have hp3 : H3 p = some (.ins cl.V dx []) := (e2.trans e3) _ _ hp
  have neRp : R ≠ p := fun z => by obtain ⟨xs, hz⟩ := hR.out; rw [z, hp3] at hz; cases hz
  have neOp : O ≠ p := fun z => by rw [z, hp] at nO; cases nO
  refine ⟨_, rfl, _, rfl, O, R, d, b, tb, ls, many, g, T0, z, kvs, rfl, hOA.ext e3, hc, hT, hz, hR, hk, fun v4 H4 e4 hv4 => ?_⟩
  have hlit : lit v4 = true ∧ decide (v4 = V.non) = z.isNone := by
    cases z with
    | none => obtain rfl := hv4.nonI; exact ⟨rfl, rfl⟩
    | some j => obtain ⟨a4, _, _, rfl, _⟩ := hv4.tupI; exact ⟨rfl, rfl⟩
  have e14 := (e2.trans e3).trans e4
  have hp4 := e4 _ _ hp3
  refine ⟨_, rfl, p, cl.V, dx, _, rfl, hp4, T.c_V, T.n_V_breach, by show 0 < 1000; decide, ?_⟩
  generalize eF1 : putF "breach" v4 [] = F1
  have lF1 : F1.length ≤ 1 := by rw [← eF1]; exact len_putF "breach" v4 []
  refine ⟨_, rfl, p, cl.V, dx, _, _, rfl, upd_same, T.c_V, T.n_V_breach, by subst eF1; exact lkE, hlit.1, .inl rfl, ?_⟩
  refine ⟨_, rfl, p, cl.V, dx, _, rfl, upd_same, T.c_V, T.n_V_holds, by omega, ?_⟩
  rw [upd_upd, hlit.2]
  generalize eF2 : putF "holds" (V.bl z.isNone) F1 = F2
  have lF2 : F2.length ≤ 2 := by rw [← eF2]; have := len_putF "holds" (V.bl z.isNone) F1; omega
  refine ⟨_, rfl, p, cl.V, dx, _, rfl, upd_same, T.c_V, T.n_V_table, by omega, ?_⟩
  rw [upd_upd]
  generalize eF3 : putF "table" V.non F2 = F3
  have lF3 : F3.length ≤ 3 := by rw [← eF3]; have := len_putF "table" V.non F2; omega
  have t5 : Tp H4 (upd H4 p (.ins cl.V dx F3)) := Tp.upd (by rw [hp4]; trivial)
  have b5 : ExB p H (upd H4 p (.ins cl.V dx F3)) := ((ExB.refl p H).ext e14).fld
  refine tupN_d (ds := []) .nil (by show 0 ≤ 100; decide) fun v6 H6 e6 hv6 => ?_
  refine ⟨_, rfl, p, cl.V, dx, _, rfl, e6 _ _ upd_same, T.c_V, T.n_V_told, by omega, ?_⟩
  generalize eF4 : putF "told" v6 F3 = F4
  have lF4 : F4.length ≤ 4 := by rw [← eF4]; have := len_putF "told" v6 F3; omega
  have t7 : Tp H6 (upd H6 p (.ins cl.V dx F4)) := Tp.upd (by rw [e6 _ _ upd_same]; trivial)
  have b7 : ExB p H (upd H6 p (.ins cl.V dx F4)) := (b5.ext e6).fld
  have t47 : Tp H4 (upd H6 p (.ins cl.V dx F4)) := (t5.trans (Tp.of e6)).trans t7
  have hp7 : upd H6 p (.ins cl.V dx F4) p = some (.ins cl.V dx F4) := upd_same
  obtain ⟨ox', fs, qc, qw, kc, kw, vs, h1, h2, h3, h4, h5, h6, h7, h8, h9⟩ := (hOA.ext (e3.trans e4)).ex
  have hO7 : upd H6 p (.ins cl.V dx F4) O = some (.ins cl.O ox' fs) := by rw [upd_ne neOp]; exact e6 _ _ (by rw [upd_ne neOp]; exact h1)
  have hR7 : ND eStd P w K (upd H6 p (.ins cl.V dx F4)) R kvs := (hR.ex e4).at (by rw [upd_ne neRp]; obtain ⟨xs, hz⟩ := (hR.ex e4).out; rw [hz]; exact e6 _ _ (by rw [upd_ne neRp]; exact hz)) t47
  have hS7 := h9.tp t47
  have hv7 := hv4.tp t47
  have lkh : lk F4 "holds" = some (.bl z.isNone) := by
    subst eF4 eF3 eF2
    show List.lookup _ _ = _; repeat (first | exact lkE | rw [lkN (by decide +kernel)])
  have lkb : lk F4 "breach" = some v4 := by
    subst eF4 eF3 eF2 eF1
    show List.lookup _ _ = _; repeat (first | exact lkE | rw [lkN (by decide +kernel)])
  have lkt : lk F4 "table" = some .non := by
    subst eF4 eF3
    show List.lookup _ _ = _; repeat (first | exact lkE | rw [lkN (by decide +kernel)])
  obtain ⟨H7, eH7⟩ : ∃ H7, H7 = upd H6 p (.ins cl.V dx F4) := ⟨_, rfl⟩
  rw [← eH7] at b7 hp7 hO7 hR7 hS7 hv7 ⊢
  refine ⟨_, rfl, p, cl.V, dx, _, _, rfl, hp7, T.c_V, T.n_V_holds, lkh, tru_v (k := z.isNone) rfl (iB (b := z.isNone) rfl (fun e => ?_) (fun e => ?_))⟩
  rotate_left
  · cases z with
    | none => cases e
    | some j => exact q _ b7 ⟨dx, F4, v4, .non, hp7, lkb, hv7, lkh, lkt, .non⟩
  cases z with
  | some j => cases e
  | none =>
  obtain ⟨aS, oS, xS, rfl, hS1, _, hSd⟩ := hS7.tupI
  have hxl : xS.length = T0 := by have := hSd.len; simpa using this
  refine ⟨_, rfl, O, cl.O, ox', fs, _, rfl, hO7, T.c_O, T.n_O_standings, h8, aS, rfl, ⟨_, .inl (.inr ⟨oS, hS1⟩)⟩, fun D nD => ?_⟩
  refine lc_gen (walk_tup (xs := xS)) (fun j acc H => DtAll H acc ((List.range j).map (dRank g T0))) (fun _ _ _ _ t h => h.tp t) nD .nil (fun H2 e => .inl (.inr ⟨oS, e _ _ hS1⟩)) ?_ ?_
  · rintro n y acc H8 H9 hn l1 hD e8 hacc ⟨rfl, hy⟩
    obtain ⟨dd, hdd, hyd⟩ := (hSd.ex e8).get hy
    obtain ⟨s, hs, rfl⟩ := mapD_get hdd
    have hnT : n < T0 := by rw [hxl] at hn; exact hn
    obtain rfl : s = g n := by
      rw [List.getElem?_map, List.getElem?_range hnT] at hs
      exact (Option.some.inj hs).symm
    unfold RkS at hk
    rw [if_pos (show wys d tb b (g (T0 - 1)) = [] from hz)] at hk
    obtain ⟨v, hv, hv2⟩ := hk.get (k := T0 - 1 - n) (fun i j hi hj e => by have := hT.inj (T0 - 1 - i) (T0 - 1 - j) (by omega) (by omega) e; omega) (by omega)
    rw [show T0 - 1 - (T0 - 1 - n) = n by omega] at hv
    subst hv2
    refine ⟨rfl, yT ⟨_, rfl, _, rfl, _, rfl, ix_n (hR7.ex e8).r hyd.ks.dp hv ?_⟩⟩
    refine tupN_d (ds := [dStd (g n), .int ((T0 - 1 - n : Nat) : Int)]) (.cons hyd (.cons (.int _) .nil)) (by show 2 ≤ 100; decide) fun v9 H10 e10 hv9 => ?_
    refine LcN.mk (fun _ _ _ _ t h => h.tp t) nD hD e8 e10 l1 (by rw [sizeLine_eq]; omega) ?_
    rw [List.range_succ, List.map_append]
    exact (hacc.ex e10).snoc hv9
  rintro ys H8 e8 hD hyl hys
  rw [hxl] at hys
  refine tup_d (sq_of hD) hys fun v9 H9 e9 hv9 => ?_
  have e89 := e8.trans e9
  refine ⟨_, rfl, p, cl.V, dx, _, rfl, e89 _ _ hp7, T.c_V, T.n_V_told, by omega, ?_⟩
  refine ⟨_, rfl, p, cl.V, dx, _, _, rfl, upd_same, T.c_V, T.n_V_told, lkE, ?_⟩
  refine ⟨_, rfl, p, cl.V, dx, _, rfl, upd_same, T.c_V, T.n_V_table, by have := len_putF "told" v9 F4; omega, ?_⟩
  rw [upd_upd]
  have t10 : Tp H9 (upd H9 p (.ins cl.V dx (putF "table" v9 (putF "told" v9 F4)))) := Tp.upd (by rw [e89 _ _ hp7]; trivial)
  refine q _ ((b7.ext e89).fld) ⟨dx, _, v4, v9, upd_same, ?_, (hv7.ex e89).tp t10, ?_, lkE, hv9.tp t10⟩
  · show List.lookup _ _ = _; rw [lkN (by decide +kernel), lkN (by decide +kernel)]; exact lkb
  · show List.lookup _ _ = _; rw [lkN (by decide +kernel), lkN (by decide +kernel)]; exact lkh
abbrev s_RoundVerdict_bool : Stmt := inClass (top 67) 1
abbrev N_RoundVerdict_bool : List Str := ["self"]
theorem sc_RoundVerdict_bool : FnScope N_RoundVerdict_bool ["self"] (defScope s_RoundVerdict_bool) := ⟨rfl, rfl, rfl, by decide +kernel, rfl, by decide +kernel, by decide +kernel⟩
def sp_RoundVerdict_bool (cl : Cls6) : Sp := fun vs H Q _ => ∃ (a : Addr) (d : Wd) (b : Int) (tb : List (List (Nat × Nat))) (g : Nat → Std) (T : Nat) (z : Option Nat), vs = [.ref a] ∧ VerAt cl H a d b tb g T z ∧ Q (.bl z.isNone) H
theorem ok_RoundVerdict_bool  (T : Txt K mg cl) (F : FnP K "__bool__" "RoundVerdict.__bool__" s_RoundVerdict_bool [] f fd)  : FnOk P w K mg base CX0 1 f fd ["self"] ((sp_RoundVerdict_bool cl)) := by
  refine F.ok sc_RoundVerdict_bool (fun vs H Q E h => ?_) (fun cdv A outer s H vs Q E hr h => ?_)
  · unfold sp_RoundVerdict_bool at h; (repeat obtain ⟨_, h⟩ := h); subst_vars; rfl
  have hu := hr.units
  refine ⟨_, PSs.nox (pss_one (ps_ret (pe_callTy call_bool1 (by rfl) T.b_bool (by decide +kernel) (pa_cons (pe_fld (pv 0) rfl) pa_nil)))), ?_⟩
  obtain ⟨a, d, b, tb, g, T0, z, rfl, hV, q⟩ := h
  obtain ⟨dx, fs, vb, vt, h1, h2, h3, h4, h5, h6⟩ := hV.ex
  exact ⟨_, rfl, a, cl.V, dx, fs, _, rfl, h1, T.c_V, T.n_V_holds, h4, .inr ⟨_, rfl, q⟩⟩
end
end L2
set_option Elab.async false
set_option linter.all false
set_option maxRecDepth 100000
set_option maxHeartbeats 4000000
namespace L2
open PySem PySem.Spec PyProof.Rows Evl
section
variable {P : Program} {w : World} {K : PySem.W.Frag} {mg : Str → Option Value} {base : Heap} {f : Addr} {fd : FuncData} {cl : Cls6}
abbrev s_is_ranked : Stmt := top 68
abbrev N_is_ranked : List Str := ["thing", "stage"]
theorem sc_is_ranked : FnScope N_is_ranked ["thing", "stage"] (defScope s_is_ranked) := ⟨rfl, rfl, rfl, by decide +kernel, rfl, by decide +kernel, by decide +kernel⟩
def sp_is_ranked (K : PySem.W.Frag) : Sp := fun vs H Q _ => ∃ (x : V) (d : Wd) (many : Nat) (s : Std) (r : Nat), vs = [x, .int d.st] ∧ Dt H x (.tuple [dStd s, .int (r : Int)]) ∧ d.st ≤ 8 ∧ SKk d many s ∧ many ≤ 30 ∧ r ≤ 1000 ∧ ∀ H', Ex H H' → Q (.bl true) H'
theorem ok_is_ranked  (T : Txt K mg cl) (F : FnP K "is_ranked" "is_ranked" s_is_ranked [] f fd) (G_is_standing : GDef P w K mg base "is_standing" 3 ["thing", "stage"] [] ((sp_is_standing K))) (G_is_integer : GDef P w K mg base "is_integer" 1 ["thing", "low", "high"] [] (sp_is_integer)) : FnOk P w K mg base CX0 4 f fd ["thing", "stage"] ((sp_is_ranked K)) := by
  refine F.ok sc_is_ranked (fun vs H Q E h => ?_) (fun cdv A outer s H vs Q E hr h => ?_)
  · unfold sp_is_ranked at h; (repeat obtain ⟨_, h⟩ := h); subst_vars; rfl
  have hu := hr.units
  refine ⟨_, PSs.nox (pss_cons (ps_if (PW.pt (pw_or (pt_not (pt_val (pe_callB call_isi (by rfl) T.b_isinstance (by decide +kernel) (pa_cons (pv 0) (pa_cons (pe_bltn (v := .ty "tuple") (u := .type "tuple") (by rfl) T.b_tuple (by decide +kernel) rfl) pa_nil))))) (pw_or1 (pt_cmpR (op_neA (K := K) hu) (pe_callB (call_lenA (P := P) (w := w) (K := K)) (by rfl) T.b_len (by decide +kernel) (pa_cons (pv 0) pa_nil)) pe_int (nomark _))))) pss_never pss_nil)
      (pss_one (ps_ret (pe_and (pe_g G_is_standing hr (pa_cons (pe_ix (ix_A (P := P) (w := w) (K := K) hu) (pv 0) pe_int (fun _ _ => rfl)) (pa_cons (pv 1) pa_nil))) (pe_one (pe_g G_is_integer hr (pa_cons (pe_ix (ix_A (P := P) (w := w) (K := K) hu) (pv 0) pe_int (fun _ _ => rfl)) (pa_cons pe_int (pa_cons (pe_gci T.c_MOST_RANK) pa_nil))))))))), ?_⟩
  obtain ⟨x, d, many, s, r, rfl, hx, h8, hs, hm, hr, q⟩ := h
  have hx' := hx.dp (K := K)
  obtain ⟨a1, xs, rfl, ha1, hxs⟩ := hx'.tupI
  have hsm := hs.m
  refine rd_isi rfl ha1.ty (kit2 (by decide +kernel : kitB "tuple" "tuple" = some true)) (iF ?_)
  refine ⟨_, rfl, len_t hx' (ne_i ⟨_, rfl, iN (by simp) ?_⟩)⟩
  refine ⟨_, rfl, ix_t (i := 0) (d := dStd s) hx' rfl fun v0 hv0 => ?_⟩
  refine ⟨_, rfl, v0, s, d.st, rfl, hv0, by omega, by omega, hs.pm, h8, fun H1 e1 => ⟨true, rfl, iT ?_⟩⟩
  refine ⟨_, rfl, ix_t (i := 1) (d := .int (r : Int)) (hx.ex e1).dp rfl fun v1 hv1 => ?_⟩
  rw [hv1.intI]
  refine ⟨r, 0, 10 ^ 60, rfl, ?_⟩
  rw [decide_eq_true (show (0 : Int) ≤ r by omega), decide_eq_true (show (r : Int) ≤ 10 ^ 60 by omega)]
  exact q H1 e1
abbrev s_is_right_rank : Stmt := top 69
abbrev N_is_right_rank : List Str := ["book", "pair", "ranks", "ways", "letter", "goal"]
theorem sc_is_right_rank : FnScope N_is_right_rank ["book", "pair", "ranks"] (defScope s_is_right_rank) := ⟨rfl, rfl, rfl, by decide +kernel, rfl, by decide +kernel, by decide +kernel⟩
def sp_is_right_rank (P : Program) (w : World) (K : PySem.W.Frag) (cl : Cls6) : Sp := fun vs H Q _ => ∃ (a M p : Addr) (x : V) (d : Wd) (b : Int) (tb : List (List (Nat × Nat))) (ls : List Nat) (many : Nat) (g : Nat → Std) (T k : Nat) (kvs : List (Std × V)), vs = [.ref a, x, .ref p] ∧ BookAt K cl H a M d b tb many ∧ CdOk d b tb ls many ∧ Trl d tb b many g T ∧ k < T ∧
  Dt H x (dRank g T k) ∧ ND eStd P w K H p kvs ∧ wys d tb b (g (T - 1)) = [] ∧ g (T - 1) = (-1, rgI d.st) ∧ TabS (fun i v => v = .int ((T - 1 - i : Nat) : Int)) g kvs T ∧ ∀ H', Ex H H' → Q (.bl true) H'
theorem ok_is_right_rank  (T : Txt K mg cl) (F : FnP K "is_right_rank" "is_right_rank" s_is_right_rank [] f fd) (M_Book_ways_from : MDef P w K mg base cl.B "ways_from" 2 ["self", "standing"] [] ((sp_Book_ways_from K cl))) : FnOk P w K mg base CX0 3 f fd ["book", "pair", "ranks"] ((sp_is_right_rank P w K cl)) := by
  refine F.ok sc_is_right_rank (fun vs H Q E h => ?_) (fun cdv A outer s H vs Q E hr h => ?_)
  · unfold sp_is_right_rank at h; (repeat obtain ⟨_, h⟩ := h); subst_vars; rfl
  have hu := hr.units
  refine ⟨_, PSs.nox (pss_cons (ps_if (pt_cmpR (op_eqA (K := K) hu) (pe_ix (ix_A (P := P) (w := w) (K := K) hu) (pv 1) pe_int (fun _ _ => rfl)) (pe_tupN (pa_cons (pe_cv T.v_Book_HOME) (pa_cons (pe_fld (pe_fld (pv 0) rfl) rfl) pa_nil))) (nomark _)) (pss_one (ps_ret pe_bl)) pss_nil)
      (pss_cons (ps_set (i := 3) sc_is_right_rank.nd rfl (Or.inl rfl) (pe_md M_Book_ways_from hr (pv 0) (pa_cons (pe_ix (ix_A (P := P) (w := w) (K := K) hu) (pv 1) pe_int (fun _ _ => rfl)) pa_nil)))
      (pss_cons (ps_if (pt_not (pt_truR (tru_A (P := P) (w := w) (K := K)) (pv 3))) pss_never pss_nil)
      (pss_cons (ps_for PassesOwn.never rfl (pi_tup (pv 3)) (pg_tup rfl (pgs_cons (pg_name (i := 4) sc_is_right_rank.nd rfl (Or.inl rfl)) (pgs_cons (pg_name (i := 5) sc_is_right_rank.nd rfl (Or.inl rfl)) pgs_nil))) (pss_one (ps_if (PW.pt (pw_or (pt_cmpR (op_notInA (P := P) (w := w) (K := K) hu) (pv 5) (pv 2) (by rfl)) (pw_or1 (pt_cmpR op_ge (pe_ix (ix_A (P := P) (w := w) (K := K) hu) (pv 2) (pv 5) (fun _ _ => rfl)) (pe_ix (ix_A (P := P) (w := w) (K := K) hu) (pv 1) pe_int (fun _ _ => rfl)) (nomark _))))) pss_never pss_nil)))
      (pss_one (ps_ret pe_bl)))))), ?_⟩
  obtain ⟨a, M, p, x, d, b, tb, ls, many, g, T0, k, kvs, rfl, hB, hc, hT, hk, hx, hR, hl, hg, hkv, q⟩ := h
  have h8 := hc.w.s8
  obtain ⟨bx, bs, ve, q0, kb, m1, m2, m3, m4, m5, m6, m7, m8, m9, _⟩ := hB.ex
  obtain ⟨dy, gs, vp, vc, vo, ql, qm, qb, kl, kb2, ll, lb, k1, k2, k3, k4, k5, k6, k7, k8, _⟩ := m3.ex
  refine ⟨_, rfl, ix_d hx (i := 0) (d := dStd (g k)) rfl fun v0 hv0 => ⟨_, rfl, a, cl.B, bx, bs, _, rfl, m1, T.c_B, T.n_B_method, m2, M, cl.M, dy, gs, _, rfl, k1, T.c_M, T.n_M_opening, k7, ?_⟩⟩
  refine tupN_d (ds := [.int (-1), dRow (rgI d.st)]) (.cons (.int _) (.cons k8 .nil)) (by show 2 ≤ 100; decide) fun v1 H1 e1 hv1 => ?_
  refine eq_st (r := g k) (s := ((-1, rgI d.st) : Std)) (hv0.ex e1).dp (Dt.dp hv1) ⟨_, rfl, iB (b := decide (g k = ((-1, rgI d.st) : Std))) rfl (fun e => ?_) (fun e => ?_)⟩
  · exact q _ e1
  have hne := of_decide_eq_false e
  have hkT : k + 1 < T0 := by
    rcases Nat.lt_or_ge (k + 1) T0 with h | h
    · exact h
    · have : k = T0 - 1 := by omega
      rw [this, hg] at hne
      exact absurd rfl hne
  have hst := hT.step k hkT
  refine ⟨_, rfl, a, bx, bs, rfl, e1 _ _ m1, m9, _, rfl, ix_d (hx.ex e1) (i := 0) (d := dStd (g k)) rfl fun v2 hv2 => ?_⟩
  refine ⟨a, M, v2, d, b, tb, ls, many, g k, rfl, hB.ext e1, hv2, hc.t, hc.l, h8, hc.b1, hc.b2, hT.ok k hk, fun v3 H3 e3 hv3 => ?_⟩
  rw [hst] at hv3
  refine ⟨_, rfl, tru_t (ds := [dWy (lt d tb b k, g (k + 1))]) hv3.dp (iF ?_)⟩
  have e13 := e1.trans e3
  obtain ⟨aW, oW, xW, rfl, hW1, _, hWd⟩ := hv3.tupI
  cases hWd with
  | cons hg1 hWd =>
  cases hWd
  rename_i vg
  refine ⟨_, rfl, aW, rfl, ⟨_, .inl (.inr ⟨oW, hW1⟩)⟩, ?_⟩
  refine for_it (walk_tup (xs := [vg])) (fun n σ H4 => ∃ t4 t5, σ = [some (.ref a), some x, some (.ref p), some (.ref aW), t4, t5] ∧ H4 = H3)
    ⟨none, none, rfl, rfl⟩ (fun n σ H2 _ ⟨_, _, _, h⟩ => by rw [h]; exact .inl (.inr ⟨oW, hW1⟩)) ?_ ?_
  · rintro n z σ H4 H5 hn ⟨t4, t5, rfl, rfl⟩ ⟨rfl, hz⟩
    obtain rfl : n = 0 := by simp at hn; omega
    obtain rfl : vg = z := by simpa using hz
    obtain ⟨aG, oG, xG, rfl, hG1, hG2, hG3⟩ := hg1.tupI
    cases hG3 with
    | cons g1 hG3 => cases hG3 with
    | cons g2 hG3 =>
    cases hG3
    obtain rfl := g1.strI
    rename_i vs0
    refine ⟨aG, _, rfl, .inl (.inr ⟨oG, hG1⟩), rfl, _, _, rfl, _, _, rfl, rfl, ?_⟩
    obtain ⟨v, hv, hv2⟩ := hkv.get (fun a b' ha hb e => hT.inj a b' ha hb e) hkT
    subst hv2
    have g3 : Dt H5 vs0 (dStd (g (k + 1))) := g2
    refine ⟨_, rfl, _, rfl, ni_n (hR.ex e13).r g3.ks.dp ⟨_, rfl, iN (by rw [hv]; rfl) ?_⟩⟩
    refine ⟨_, rfl, _, rfl, ix_n (hR.ex e13).r g3.ks.dp hv ⟨_, rfl, ix_d (hx.ex e13) (i := 1) (d := .int ((T0 - 1 - k : Nat) : Int)) rfl fun v7 hv7 => ?_⟩⟩
    rw [hv7.intI]
    refine ⟨_, _, rfl, rfl, _, rfl, iN (decide_eq_false (by omega)) ?_⟩
    exact ⟨_, _, rfl, rfl⟩
  · rintro σ H4 ⟨t4, t5, rfl, rfl⟩
    exact q _ e13
abbrev s_judge_round : Stmt := top 70
abbrev N_judge_round : List Str := ["book", "table", "rows", "stage", "ranks", "pair", "number"]
theorem sc_judge_round : FnScope N_judge_round ["book", "table"] (defScope s_judge_round) := ⟨rfl, rfl, rfl, by decide +kernel, rfl, by decide +kernel, by decide +kernel⟩
def sp_judge_round (K : PySem.W.Frag) (cl : Cls6) : Sp := fun vs H Q _ => ∃ (a M : Addr) (x : V) (d : Wd) (b : Int) (tb : List (List (Nat × Nat))) (ls : List Nat) (many : Nat) (g : Nat → Std) (T : Nat), vs = [.ref a, x] ∧ BookAt K cl H a M d b tb many ∧ CdOk d b tb ls many ∧ Trl d tb b many g T ∧
  wys d tb b (g (T - 1)) = [] ∧ g (T - 1) = (-1, rgI d.st) ∧ Dt H x (tbD g T none) ∧ ∀ H', Ex H H' → Q .non H'
theorem ok_judge_round  (T : Txt K mg cl) (F : FnP K "judge_round" "judge_round" s_judge_round [] f fd) (G_deep : GDef P w K mg base "deep" 9 ["thing", "level"] [.int 0] (sp_deep K 8)) (G_is_ranked : GDef P w K mg base "is_ranked" 4 ["thing", "stage"] [] ((sp_is_ranked K))) (P_Book_beginning : PDef P w K mg base cl.B "beginning" 1 ((sp_Book_beginning K cl))) (G_is_right_rank : GDef P w K mg base "is_right_rank" 3 ["book", "pair", "ranks"] [] ((sp_is_right_rank P w K cl))) : FnOk P w K mg base CX0 10 f fd ["book", "table"] ((sp_judge_round K cl)) := by
  refine F.ok sc_judge_round (fun vs H Q E h => ?_) (fun cdv A outer s H vs Q E hr h => ?_)
  · unfold sp_judge_round at h; (repeat obtain ⟨_, h⟩ := h); subst_vars; rfl
  have hu := hr.units
  refine ⟨_, PSs.nox (pss_cons (ps_set (i := 2) sc_judge_round.nd rfl (Or.inl rfl) (pe_g G_deep hr (pa_cons (pv 1) pa_nil)))
      (pss_cons (ps_set (i := 3) sc_judge_round.nd rfl (Or.inl rfl) (pe_fld (pe_fld (pv 0) rfl) rfl))
      (pss_cons (ps_set (i := 4) sc_judge_round.nd rfl (Or.inl rfl) pe_dnewN)
      (pss_cons (ps_for PassesOwn.never rfl (pi_tup (pv 2)) (pg_name (i := 5) sc_judge_round.nd rfl (Or.inl rfl)) (pss_one (ps_if (PW.pt (pw_and (pt_val (pe_g G_is_ranked hr (pa_cons (pv 5) (pa_cons (pv 3) pa_nil)))) (pw_and1 (pt_cmpR (op_notInA (P := P) (w := w) (K := K) hu) (pe_ix (ix_A (P := P) (w := w) (K := K) hu) (pv 5) pe_int (fun _ _ => rfl)) (pv 4) (by rfl))))) (pss_one (ps_asg (pe_ix (ix_A (P := P) (w := w) (K := K) hu) (pv 5) pe_int (fun _ _ => rfl)) (pg_sub (pv 4) (pe_ix (ix_A (P := P) (w := w) (K := K) hu) (pv 5) pe_int (fun _ _ => rfl)) (set_A (P := P) (w := w) (K := K) hu)))) pss_nil)))
      (pss_cons (ps_if (pt_cmpR (op_notInA (P := P) (w := w) (K := K) hu) (pe_p P_Book_beginning hr (pv 0)) (pv 4) (by rfl)) (pss_one (ps_ret (pe_un un_neg pe_int))) pss_nil)
      (pss_cons (ps_for PassesOwn.never rfl (pi_enumT (by rfl) T.b_enumerate (pa_cons (pv 2) pa_nil)) (pg_tup rfl (pgs_cons (pg_name (i := 6) sc_judge_round.nd rfl (Or.inl rfl)) (pgs_cons (pg_name (i := 5) sc_judge_round.nd rfl (Or.inl rfl)) pgs_nil))) (pss_one (ps_if (PW.pt (pw_or (pt_not (pt_val (pe_g G_is_ranked hr (pa_cons (pv 5) (pa_cons (pv 3) pa_nil))))) (pw_or1 (pt_not (pt_val (pe_g G_is_right_rank hr (pa_cons (pv 0) (pa_cons (pv 5) (pa_cons (pv 4) pa_nil))))))))) (pss_one (ps_ret (pv 6))) pss_nil)))
      (pss_one (ps_ret pe_non)))))))), ?_⟩
  obtain ⟨a, M, x, d, b, tb, ls, many, g, T0, rfl, hB, hc, hT, hl, hg, hx, q⟩ := h
  have h8 := hc.w.s8
  have hm4 := hc.m4
  have t1 := hT.t1
  have t391 := hT.t391
  obtain ⟨bx, bs, ve, q0, kb, m1, m2, m3, m4, m5, m6, m7, m8, m9, _⟩ := hB.ex
  obtain ⟨dy, gs, vp, vc, vo, ql, qm, qb, kl, kb2, ll, lb, k1, k2, k3, k4, k5, k6, k7, k8, _⟩ := m3.ex
  have hdep : Dep 8 (tbD g T0 none) := by
    refine ⟨by rw [List.length_map, List.length_range]; omega, fun y hy => ?_⟩
    obtain ⟨k, hk, rfl⟩ := List.mem_map.mp hy
    refine ⟨by show 2 ≤ 1000; decide, fun y hy => ?_⟩
    have hk := List.mem_range.mp hk
    rcases List.mem_cons.mp hy with rfl | hy
    · exact Dep.std 4 (by have := (hT.ok k hk).pm.1; omega)
    · rcases List.mem_singleton.mp hy with rfl
      trivial
  refine ⟨_, rfl, x, _, 0, rfl, hx.dp, hdep, by decide, by decide, fun v1 H1 e1 hv1 => ?_⟩
  obtain ⟨aV, oV, xV, rfl, hV1, _, hVd⟩ := hv1.tupI
  have hxl : xV.length = T0 := by have := hVd.len; simpa using this
  refine ⟨_, rfl, a, cl.B, bx, bs, _, rfl, e1 _ _ m1, T.c_B, T.n_B_method, m2, M, cl.M, dy, gs, _, rfl, e1 _ _ k1, T.c_M, T.n_M_stage, k2, ?_⟩
  intro R hR hRm
  have e2 : Ex H1 (upd H1 R (NdO P w R [])) := Ex.new hR
  have nR : H R = none := fresh_back e1 hR
  refine gN_ ?_
  dsimp only
  refine ⟨_, rfl, aV, rfl, ⟨_, .inl (.inr ⟨oV, e2 _ _ hV1⟩)⟩, ?_⟩
  have gv : ∀ {n y} {H3 : Hp}, Tp H1 H3 → n < xV.length → xV[n]? = some y → n < T0 ∧ Dt H3 y (dRank g T0 n) := fun {n y H3} e3 hn hy => by
    rw [hxl] at hn
    obtain ⟨dd, hdd, hyd⟩ := (hVd.tp e3).get hy
    obtain ⟨m, hm, rfl⟩ := mapD_get hdd
    rw [List.getElem?_range hn] at hm
    cases hm
    exact ⟨hn, hyd⟩
  refine for_it (walk_tup (xs := xV)) (fun n σ H3 => ∃ t5 t6 kvs, σ = [some (.ref a), some x, some (.ref aV), some (.int d.st), some (.ref R), t5, t6] ∧ Ex H H3 ∧ Tp H1 H3 ∧ ND eStd P w K H3 R kvs ∧ TabS (fun i v => v = .int ((T0 - 1 - i : Nat) : Int)) g kvs n)
    ⟨none, none, [], rfl, e1.trans e2, Tp.of e2, nd_nil upd_same hRm, rfl, fun k hk => by omega⟩ (fun n σ H2 _ ⟨_, _, _, _, _, e, _⟩ => .inl (.inr ⟨oV, e.2 _ _ _ hV1⟩)) ?_ ?_
  · rintro n y σ H3 H4 hn ⟨t5, t6, kvs, rfl, e4, p4, hR4, hk4⟩ ⟨rfl, hy⟩
    obtain ⟨hnT, hyd⟩ := gv p4 hn hy
    refine ⟨_, rfl, _, rfl, y, d, many, g n, T0 - 1 - n, rfl, hyd, h8, hT.ok n hnT, by omega, by omega, fun H5 e5 => ⟨true, rfl, iT ?_⟩⟩
    have hyd5 := hyd.ex e5
    have gne : ∀ k, k < n → g k ≠ g n := fun k hk e => by have := hT.inj k n (by omega) hnT e; omega
    have hno : valV kvs (g n) = none := hk4.no gne
    refine ⟨_, rfl, ix_d hyd5 (i := 0) (d := dStd (g n)) rfl fun v6 hv6 => ⟨_, rfl, ni_n (hR4.ex e5).r hv6.ks.dp ⟨_, rfl, iP (by rw [hno]; rfl) ?_⟩⟩⟩
    refine ⟨_, rfl, ix_d hyd5 (i := 1) (d := .int ((T0 - 1 - n : Nat) : Int)) rfl fun v7 hv7 => ?_⟩
    rw [hv7.intI]
    refine ⟨_, rfl, _, rfl, ix_d hyd5 (i := 0) (d := dStd (g n)) rfl fun v8 hv8 => set_n (hR4.ex e5) (by rw [hk4.1, sizeLine_eq]; omega) hv8.ks fun o hnd => ?_⟩
    have t8 : Tp H5 (upd H5 R o) := Tp.upd (hR4.ex e5).sft
    exact ⟨_, _, _, rfl, (e4.trans e5).mut nR, (p4.trans (Tp.of e5)).trans t8, hnd, TabS.put hk4 gne rfl⟩
  · rintro σ H3 ⟨t5, t6, kvs, rfl, e4, p4, hR4, hk4⟩
    rw [hxl] at hk4
    obtain ⟨v0, hv0, _⟩ := hk4.get (fun a b' ha hb e => hT.inj a b' ha hb e) (k := 0) (by omega)
    rw [hT.zero] at hv0
    refine ⟨_, rfl, a, bx, bs, rfl, e4 _ _ m1, a, M, d, b, tb, many, rfl, hB.ext e4, fun v5 H5 e5 hv5 => ?_⟩
    refine ⟨_, rfl, ni_n (k := ((0, rgI d.st) : Std)) (hR4.ex e5).r hv5.ks.dp ⟨_, rfl, iN (by rw [hv0]; rfl) ?_⟩⟩
    have p5 := p4.trans (Tp.of e5)
    refine ⟨_, rfl, aV, xV, rfl, .inl (.inr ⟨oV, p5.2 _ _ _ hV1⟩), ?_⟩
    have e45 := e4.trans e5
    have hR5 := hR4.ex e5
    refine for_it (walk_enumT (xs := xV)) (fun n σ H6 => ∃ t5 t6, σ = [some (.ref a), some x, some (.ref aV), some (.int d.st), some (.ref R), t5, t6] ∧ Ex H5 H6)
      ⟨t5, t6, rfl, Ex.refl _⟩ (fun n σ H2 _ ⟨_, _, _, e⟩ => .inl (.inr ⟨oV, e _ _ (p5.2 _ _ _ hV1)⟩)) ?_ ?_
    · rintro n y σ H6 H7 hn ⟨t5, t6, rfl, e6⟩ ⟨A0, u1, u2, rfl, hA0, rfl, hu1, hu2⟩
      cases hu1
      have e7 : Ex H6 (upd H6 A0 (.tup [.int (n : Nat), u2])) := Ex.new hA0
      have e67 := e6.trans e7
      obtain ⟨hnT, hyd⟩ := gv (p5.trans (Tp.of e67)) hn hu2
      refine ⟨A0, _, rfl, st_of upd_same, rfl, _, _, rfl, _, _, rfl, rfl, ?_⟩
      refine ⟨_, rfl, _, rfl, u2, d, many, g n, T0 - 1 - n, rfl, hyd, h8, hT.ok n hnT, by omega, by omega, fun H8 e8 => ⟨true, rfl, iF ?_⟩⟩
      have e68 := e67.trans e8
      refine ⟨_, rfl, _, rfl, _, rfl, a, M, R, u2, d, b, tb, ls, many, g, T0, n, kvs, rfl, hB.ext (e45.trans e68), hc, hT, hnT, hyd.ex e8, hR5.ex e68, hl, hg, hk4, fun H9 e9 => ⟨true, rfl, iF ?_⟩⟩
      exact ⟨_, _, rfl, e68.trans e9⟩
    · rintro σ H6 ⟨t5, t6, rfl, e6⟩
      exact q H6 (e45.trans e6)
end
end L2
set_option Elab.async false
set_option linter.all false
set_option maxRecDepth 100000
set_option maxHeartbeats 4000000
namespace L2
open PySem PySem.Spec PyProof.Rows Evl
/-- the head behind a calling -/
def hdF (d : Wd) (us : List Nat) : List Int := us.foldl (fun r c => tms r (mvD d c)) (rgI d.st)
structure TouAt (cl : Cls6) (H : Hp) (a : Addr) (d : Wd) (us : List Nat) : Prop where
  ex : ∃ (dx : Addr) (fs : List (Str × V)) (vh vs : V) (hs : List (List Int)), H a = some (.ins cl.U dx fs) ∧ lk fs "calling" = some (.str (tx us)) ∧ lk fs "row_of_heads" = some vh ∧ Dt H vh (.tuple ((hs ++ [hdF d us]).map dRow)) ∧ lk fs "start" = some vs ∧ Dt H vs (dRow (rgI d.st))
section
variable {P : Program} {w : World} {K : PySem.W.Frag} {mg : Str → Option Value} {base : Heap} {f : Addr} {fd : FuncData} {cl : Cls6}
abbrev s_Touch_init : Stmt := inClass (top 72) 0
abbrev N_Touch_init : List Str := ["self", "method", "calling", "start", "heads", "rows", "letter", "head", "row"]
theorem sc_Touch_init : FnScope N_Touch_init ["self", "method", "calling", "start"] (defScope s_Touch_init) := ⟨rfl, rfl, rfl, by decide +kernel, rfl, by decide +kernel, by decide +kernel⟩
def sp_Touch_init (K : PySem.W.Frag) (cl : Cls6) : Sp := fun vs H Q _ => ∃ (p dx M : Addr) (d : Wd) (us : List Nat), vs = [.ref p, .ref M, .str (tx us), .non] ∧ H p = some (.ins cl.U dx []) ∧ p ≠ M ∧ (∀ H', ExB p H H' → MethAt K cl H' M d) ∧ WdOk d ∧ (∀ c ∈ us, c ∈ lts d) ∧ us.length ≤ 400 ∧
  ∀ H', ExB p H H' → TouAt cl H' p d us → Q .non H'
theorem ok_Touch_init  (T : Txt K mg cl) (F : FnP K "__init__" "Touch.__init__" s_Touch_init [.non] f fd) (G_check_calling : GDef P w K mg base "check_calling" 1 ["method", "calling"] [] ((sp_check_calling K cl))) (G_told_row : GDef P w K mg base "told_row" 3 ["thing", "stage"] [] ((sp_told_row K))) (G_times : GDef P w K mg base "times" 1 ["row", "move"] [] ((sp_times K))) : FnOk P w K mg base CX0 4 f fd ["self", "method", "calling", "start"] ((sp_Touch_init K cl)) := by
  refine F.ok sc_Touch_init (fun vs H Q E h => ?_) (fun cdv A outer s H vs Q E hr h => ?_)
  · unfold sp_Touch_init at h; (repeat obtain ⟨_, h⟩ := h); subst_vars; rfl
  have hu := hr.units
  refine ⟨_, PSs.nox (pss_cons (ps_expr (pe_g G_check_calling hr (pa_cons (pv 1) (pa_cons (pv 2) pa_nil))))
      (pss_cons (ps_fld (pv 0) (pv 1) rfl)
      (pss_cons (ps_fld (pv 0) (pv 2) rfl)
      (pss_cons (ps_fld (pv 0) (pe_ifExp (pt_cmpR op_isC (pv 3) pe_non (nomark _)) (pe_fld (pv 1) rfl) (pe_g G_told_row hr (pa_cons (pv 3) (pa_cons (pe_fld (pv 1) rfl) pa_nil)))) rfl)
      (pss_cons (ps_set (i := 4) sc_Touch_init.nd rfl (Or.inl rfl) (pe_lst (pa_cons (pe_fld (pv 0) rfl) pa_nil)))
      (pss_cons (ps_set (i := 5) sc_Touch_init.nd rfl (Or.inl rfl) (pe_lst pa_nil))
      (pss_cons (ps_for PassesOwn.never rfl (pi_str (pv 2)) (pg_name (i := 6) sc_Touch_init.nd rfl (Or.inl rfl)) (pss_cons (ps_set (i := 7) sc_Touch_init.nd rfl (Or.inr rfl) (pe_ix (ix_A (P := P) (w := w) (K := K) hu) (pv 4) (pe_un un_neg pe_int) (fun _ _ => rfl)))
      (pss_cons (ps_expr (pe_bm PySem.F.plainAttrs_list PySem.F.slot_list_extend PySem.F.type_list_extend mt_extend (pv 5) (pa_cons (pe_lc (own := [("row", 8)]) rfl sc_Touch_init.nd (pi_tup (pe_ix (ix_A (P := P) (w := w) (K := K) hu) (pe_fld (pv 1) rfl) (pv 6) (fun _ _ => rfl))) (blkOk_by (N := N_Touch_init) (sc := defScope s_Touch_init) (by decide +kernel)) (fun _ _ _ _ _ => (pg_name (i := 8) sc_Touch_init.nd rfl (Or.inl rfl))) (fun _ _ _ _ _ => pts_nil) (fun _ _ _ _ _ => (pe_g G_times hr (pa_cons (pv 7) (pa_cons (pv 8) pa_nil))))) pa_nil)))
      (pss_one (ps_expr (pe_bm PySem.F.plainAttrs_list PySem.F.slot_list_append PySem.F.type_list_append mt_append (pv 4) (pa_cons (pe_g G_times hr (pa_cons (pv 7) (pa_cons (pe_ix (ix_A (P := P) (w := w) (K := K) hu) (pe_fld (pv 1) rfl) (pv 6) (fun _ _ => rfl)) pa_nil))) pa_nil)))))))
      (pss_cons (ps_fld (pv 0) (pe_callTy (call_tupN (K := K)) (by rfl) T.b_tuple (by decide +kernel) (pa_cons (pv 4) pa_nil)) rfl)
      (pss_one (ps_fld (pv 0) (pe_callTy (call_tupN (K := K)) (by rfl) T.b_tuple (by decide +kernel) (pa_cons (pv 5) pa_nil)) rfl)))))))))), ?_⟩
  obtain ⟨p, dx, M, d, us, rfl, hp, hpM, hM, hw, hus, hul, q⟩ := h
  have h8 := hw.s8
  refine ⟨_, rfl, _, rfl, M, d, us, rfl, hM _ (ExB.refl p H), hus, hul, fun H1 e1 => ?_⟩
  have hp1 := e1 _ _ hp
  have b1 := (ExB.refl p H).ext e1
  refine ⟨_, rfl, _, rfl, p, cl.U, dx, _, rfl, hp1, T.c_U, T.n_U_method, by show 0 < 1000; decide, ?_⟩
  refine ⟨_, rfl, _, rfl, p, cl.U, dx, _, rfl, upd_same, T.c_U, T.n_U_calling, by have := len_putF "method" (V.ref M) []; simp at this; omega, ?_⟩
  rw [upd_upd]
  generalize eF2 : putF "calling" (V.str (tx us)) (putF "method" (V.ref M) []) = F2
  have lF2 : F2.length ≤ 2 := by rw [← eF2]; have a1 := len_putF "calling" (V.str (tx us)) (putF "method" (V.ref M) []); have a2 := len_putF "method" (V.ref M) []; simp at a2; omega
  have b2 : ExB p H (upd H1 p (.ins cl.U dx F2)) := b1.fld
  have hM2 := hM _ b2
  obtain ⟨dy, gs, vp, vc, vo, ql, qm, qb, kl, kb, ll, lb, k1, k2, k3, k4, k5, k6, k7, k8, _⟩ := hM2.ex
  refine ⟨_, rfl, rfl, .inl rfl, _, rfl, iP (decide_eq_true rfl) ⟨_, rfl, M, cl.M, dy, gs, _, rfl, k1, T.c_M, T.n_M_opening, k7, ?_⟩⟩
  refine ⟨_, rfl, p, cl.U, dx, _, rfl, upd_same, T.c_U, T.n_U_start, by omega, ?_⟩
  rw [upd_upd]
  generalize eF3 : putF "start" vo F2 = F3
  have lF3 : F3.length ≤ 3 := by rw [← eF3]; have := len_putF "start" vo F2; omega
  have lkS : lk F3 "start" = some vo := by rw [← eF3]; exact lkE
  have lkC : lk F3 "calling" = some (.str (tx us)) := by subst eF3 eF2; show List.lookup _ _ = _; repeat (first | exact lkE | rw [lkN (by decide +kernel)])
  have b3 : ExB p H (upd H1 p (.ins cl.U dx F3)) := b1.fld
  have hp3 : upd H1 p (.ins cl.U dx F3) p = some (.ins cl.U dx F3) := upd_same
  have t23 : Tp (upd H1 p (.ins cl.U dx F2)) (upd H1 p (.ins cl.U dx F3)) := by
    rw [show upd H1 p (.ins cl.U dx F3) = upd (upd H1 p (.ins cl.U dx F2)) p (.ins cl.U dx F3) from (upd_upd).symm]
    exact Tp.upd (by rw [upd_same]; trivial)
  have vo3 := k8.tp t23
  obtain ⟨H3, eH3⟩ : ∃ H3, H3 = upd H1 p (.ins cl.U dx F3) := ⟨_, rfl⟩
  rw [← eH3] at b3 hp3 vo3
  refine (?_ : tSeq _ _ _ _ (upd H1 p (.ins cl.U dx F3)))
  rw [← eH3]
  refine ⟨_, rfl, p, cl.U, dx, F3, _, rfl, hp3, T.c_U, T.n_U_start, lkS, by show 1 ≤ sizeLine; decide, fun Hd hHd => ⟨by show 0 ≤ sizeLine; decide, fun Rw hRw => ?_⟩⟩
  have e4 : Ex H3 (upd H3 Hd (.lst [vo])) := Ex.new hHd
  have e5 : Ex (upd H3 Hd (.lst [vo])) (upd (upd H3 Hd (.lst [vo])) Rw (.lst [])) := Ex.new hRw
  have neHp : Hd ≠ p := fun z => by rw [z, hp3] at hHd; cases hHd
  have neRp : Rw ≠ p := fun z => by rw [z, e4 _ _ hp3] at hRw; cases hRw
  have neRH : Rw ≠ Hd := fun z => by rw [z, upd_same] at hRw; cases hRw
  have nHd : H Hd = none := b3.none hHd neHp
  have nRw : H Rw = none := (b3.ext e4).none hRw neRp
  refine ⟨_, rfl, tx us, rfl, ?_⟩
  refine for_it (walk_str (z := tx us)) (fun i σ H4 => ∃ (t6 t7 t8 : Option V) (hs : List (List Int)) (ws xs : List V) (vl : V), σ = [some (.ref p), some (.ref M), some (.str (tx us)), some .non, some (.ref Hd), some (.ref Rw), t6, t7, t8] ∧ ExB p H H4 ∧ H4 p = some (.ins cl.U dx F3) ∧ Tp H3 H4 ∧ H4 Hd = some (.lst (ws ++ [vl])) ∧ DtAll H4 ws (hs.map dRow) ∧ Dt H4 vl (dRow (hdF d (us.take i))) ∧ Pm d.st (hdF d (us.take i)) ∧ ws.length = i ∧ H4 Rw = some (.lst xs) ∧ xs.length ≤ 12 * i)
    ⟨none, none, none, [], [], [], vo, rfl, (b3.ext e4).ext e5, e5 _ _ (e4 _ _ hp3), (Tp.of e4).trans (Tp.of e5), e5 _ _ upd_same, .nil, (vo3.ex e4).ex e5, rgI_pm d.st, rfl, upd_same, Nat.le_refl _⟩ (fun _ _ _ _ _ => trivial) ?_ ?_
  · rintro i y σ H4 H5 hi ⟨t6, t7, t8, hs, ws, xs, vl, rfl, b5, hp5, p5, hH5, hws5, hvl5, hpm, hwl, hR5, hxl⟩ ⟨rfl, c, hcc, rfl⟩
    have hci : us[i]? = some c := by simpa [tx] using hcc
    have hiu : i < us.length := (List.getElem?_eq_some_iff.mp hci).1
    have hcl := hus c (List.mem_of_getElem? hci)
    have htk : us.take (i + 1) = us.take i ++ [c] := by rw [List.take_succ, hci]; rfl
    have hM5 := hM _ b5
    obtain ⟨dy, gs, vp, vc, vo', ql, qm, qb, kl, kb, ll, lb, k1, k2, k3, k4, k5, k6, k7, k8, k9, k10, k11, k12, k13, ⟨km, lm, k14, k15, k16⟩, k17, k18, k19, k20⟩ := hM5.ex
    refine ⟨_, rfl, 1, rfl, ix_l (sq_of hH5) (atI_last _ _) (gN_ ?_)⟩
    obtain ⟨vb, hvb, rows, hrd, hrl, hrp⟩ := k19.get ((k20.mem_iff).mpr hcl)
    obtain ⟨vm, hvm, hmd⟩ := k15.get ((k16.mem_iff).mpr hcl)
    obtain ⟨aB, oB, xB, rfl, hB1, _, hBd⟩ := hrd.tupI
    have hxB : xB.length ≤ 12 := by have := hBd.len; rw [List.length_map] at this; omega
    refine ⟨_, rfl, .inl ⟨rfl, _, sq_of hR5⟩, _, rfl, M, cl.M, dy, gs, _, rfl, k1, T.c_M, T.n_M_bodies, k17, _, rfl, ix_k (k := .inr (ch c)) (.inl k18) hvb ⟨aB, rfl, ⟨_, .inl (.inr ⟨oB, hB1⟩)⟩, fun D nD => ?_⟩⟩
    refine lc_gen (walk_tup (xs := xB)) (fun j acc H => True) (fun _ _ _ _ t h => h) nD trivial (fun H2 e => .inl (.inr ⟨oB, e _ _ hB1⟩)) ?_ ?_
    · rintro j z acc H6 H7 hj l1 hD e6 _ ⟨rfl, hz⟩
      obtain ⟨dd, hdd, hzd⟩ := (hBd.ex e6).get hz
      obtain ⟨r, hr, rfl⟩ := mapD_get hdd
      have hrm := hrp r (List.mem_of_getElem? hr)
      refine ⟨rfl, yT ⟨_, rfl, _, rfl, vl, z, hdF d (us.take i), r, rfl, (hvl5.ex e6).dp, hzd.dp, mv_bound hpm hrm, by rw [hrm.1]; exact h8, fun v8 H8 e8 hv8 => ?_⟩⟩
      exact LcN.mk (fun _ _ _ _ t h => h) nD hD e6 e8 l1 (by rw [sizeLine_eq]; omega) trivial
    rintro ys H6 e6 hD hyl _
    have neRD : Rw ≠ D := fun z => by rw [← z, hR5] at nD; cases nD
    have neHD : Hd ≠ D := fun z => by rw [← z, hH5] at nD; cases nD
    refine ⟨Rw, D, xs, ys, rfl, rfl, e6 _ _ hR5, hD, by rw [sizeLine_eq]; omega, ?_⟩
    have t7' : Tp H6 (upd H6 Rw (.lst (xs ++ ys))) := Tp.upd (Sft.lst (e6 _ _ hR5))
    have b7 : ExB p H (upd H6 Rw (.lst (xs ++ ys))) := (b5.ext e6).mut nRw
    have p67 : Tp H5 (upd H6 Rw (.lst (xs ++ ys))) := (Tp.of e6).trans t7'
    have hH7 : upd H6 Rw (.lst (xs ++ ys)) Hd = some (.lst (ws ++ [vl])) := by rw [upd_ne (Ne.symm neRH)]; exact e6 _ _ hH5
    have hp7 : upd H6 Rw (.lst (xs ++ ys)) p = some (.ins cl.U dx F3) := by rw [upd_ne (Ne.symm neRp)]; exact e6 _ _ hp5
    have hM7 := hM _ b7
    have hR7 : upd H6 Rw (.lst (xs ++ ys)) Rw = some (.lst (xs ++ ys)) := upd_same
    have hvl7 := hvl5.tp p67
    have hws7 := hws5.tp p67
    obtain ⟨H7, eH7⟩ : ∃ H7, H7 = upd H6 Rw (.lst (xs ++ ys)) := ⟨_, rfl⟩
    rw [← eH7] at b7 p67 hH7 hp7 hM7 hR7 hvl7 hws7 ⊢
    obtain ⟨dy, gs, vp, vc, vo', ql, qm, qb, kl, kb, ll, lb, k1, k2, k3, k4, k5, k6, k7, k8, k9, k10, k11, k12, k13, ⟨km, lm, k14, k15, k16⟩, k17, k18, k19, k20⟩ := hM7.ex
    obtain ⟨vm, hvm, hmd⟩ := k15.get ((k16.mem_iff).mpr hcl)
    have hpmv := mvD_pm d c
    refine ⟨_, rfl, .inl ⟨rfl, _, sq_of hH7⟩, _, rfl, _, rfl, M, cl.M, dy, gs, _, rfl, k1, T.c_M, T.n_M_moves, k13, _, rfl, ix_k (k := .inr (ch c)) (.inl k14) hvm ?_⟩
    refine ⟨vl, vm, hdF d (us.take i), mvD d c, rfl, hvl7.dp, hmd.dp, mv_bound hpm hpmv, by rw [hpmv.1]; exact h8, fun v9 H9 e9 hv9 => ?_⟩
    refine ⟨Hd, _, _, rfl, rfl, e9 _ _ hH7, by rw [List.length_append, hwl, sizeLine_eq]; show i + 1 < _; omega, ?_⟩
    have t10 : Tp H9 (upd H9 Hd (.lst ((ws ++ [vl]) ++ [v9]))) := Tp.upd (Sft.lst (e9 _ _ hH7))
    have p79 := (Tp.of e9).trans t10
    have ehd : hdF d (us.take (i + 1)) = tms (hdF d (us.take i)) (mvD d c) := by
      unfold hdF; rw [htk, List.foldl_append]; rfl
    refine ⟨_, _, _, hs ++ [hdF d (us.take i)], ws ++ [vl], xs ++ ys, v9, rfl, (b7.ext e9).mut nHd, by rw [upd_ne (Ne.symm neHp)]; exact e9 _ _ hp7, (p5.trans p67).trans p79, upd_same, ?_, ?_, ?_, by rw [List.length_append, hwl]; rfl, by rw [upd_ne neRH]; exact e9 _ _ hR7, by rw [List.length_append]; omega⟩
    · rw [List.map_append]
      exact (hws7.tp p79).snoc (hvl7.tp p79)
    · rw [ehd]; exact hv9.tp t10
    · rw [ehd]; exact hpm.tms hpmv
  · rintro σ H4 ⟨t6, t7, t8, hs, ws, xs, vl, rfl, b5, hp5, p5, hH5, hws5, hvl5, hpm, hwl, hR5, hxl⟩
    have eul : us.take (tx us).cps.size = us := by show us.take (us.toArray.size) = us; simp
    rw [eul] at hvl5
    refine ⟨_, rfl, tup_d (ds := (hs ++ [hdF d us]).map dRow) (sq_of hH5) (by rw [List.map_append]; exact hws5.snoc hvl5) fun v6 H6 e6 hv6 => ?_⟩
    refine ⟨_, rfl, p, cl.U, dx, _, rfl, e6 _ _ hp5, T.c_U, T.n_U_row_of_heads, by omega, ?_⟩
    have hRw6 : upd H6 p (.ins cl.U dx (putF "row_of_heads" v6 F3)) Rw = some (.lst xs) := by rw [upd_ne neRp]; exact e6 _ _ hR5
    refine ⟨_, rfl, tup_l (sq_of hRw6) fun l o hl ho => ?_⟩
    have e7 := Ex.new (o := HO.frz o (.tup xs)) hl
    refine ⟨_, rfl, p, cl.U, dx, _, rfl, e7 _ _ upd_same, T.c_U, T.n_U_rows, by have := len_putF "row_of_heads" v6 F3; omega, ?_⟩
    have t7' : Tp H6 (upd H6 p (.ins cl.U dx (putF "row_of_heads" v6 F3))) := Tp.upd (by rw [e6 _ _ hp5]; trivial)
    obtain ⟨H8, eH8⟩ : ∃ H8, H8 = upd (upd H6 p (.ins cl.U dx (putF "row_of_heads" v6 F3))) l (.frz o (.tup xs)) := ⟨_, rfl⟩
    have hp8 : H8 p = some (.ins cl.U dx (putF "row_of_heads" v6 F3)) := by rw [eH8]; exact e7 _ _ upd_same
    rw [← eH8] at e7
    refine (?_ : Q V.non (upd (upd (upd H6 p (.ins cl.U dx (putF "row_of_heads" v6 F3))) l (.frz o (.tup xs))) p _))
    rw [← eH8]
    have t9 : Tp H8 (upd H8 p (.ins cl.U dx (putF "rows" (.ref l) (putF "row_of_heads" v6 F3)))) := Tp.upd (by rw [hp8]; trivial)
    have t69 := (t7'.trans (Tp.of e7)).trans t9
    refine q _ ((((b5.ext e6).fld).ext e7).fld) ⟨dx, _, v6, vo, hs, upd_same, ?_, ?_, hv6.tp t69, ?_, ((vo3.tp p5).ex e6).tp t69⟩
    · show List.lookup _ _ = _; rw [lkN (by decide +kernel), lkN (by decide +kernel)]; exact lkC
    · show List.lookup _ _ = _; rw [lkN (by decide +kernel)]; exact lkE
    · show List.lookup _ _ = _; rw [lkN (by decide +kernel), lkN (by decide +kernel)]; exact lkS
abbrev s_Touch_is_round : Stmt := inClass (top 72) 3
abbrev N_Touch_is_round : List Str := ["self"]
theorem sc_Touch_is_round : FnScope N_Touch_is_round ["self"] (defScope s_Touch_is_round) := ⟨rfl, rfl, rfl, by decide +kernel, rfl, by decide +kernel, by decide +kernel⟩
def sp_Touch_is_round (K : PySem.W.Frag) (cl : Cls6) : Sp := fun vs H Q _ => ∃ (p : Addr) (d : Wd) (us : List Nat), vs = [.ref p] ∧ TouAt cl H p d us ∧ WdOk d ∧ us.length ≤ 400 ∧ us ≠ [] ∧ hdF d us = rgI d.st ∧ Q (.bl true) H
theorem ok_Touch_is_round  (T : Txt K mg cl) (F : FnP K "is_round" "Touch.is_round" s_Touch_is_round [] f fd)  : FnOk P w K mg base CX0 1 f fd ["self"] ((sp_Touch_is_round K cl)) := by
  refine F.ok sc_Touch_is_round (fun vs H Q E h => ?_) (fun cdv A outer s H vs Q E hr h => ?_)
  · unfold sp_Touch_is_round at h; (repeat obtain ⟨_, h⟩ := h); subst_vars; rfl
  have hu := hr.units
  refine ⟨_, PSs.nox (pss_one (ps_ret (pe_and (pe_cmpR op_gt (pe_callB (call_lenA (P := P) (w := w) (K := K)) (by rfl) T.b_len (by decide +kernel) (pa_cons (pe_fld (pv 0) rfl) pa_nil)) pe_int (nomark _)) (pe_one (pe_cmpR (op_eqA (K := K) hu) (pe_ix (ix_A (P := P) (w := w) (K := K) hu) (pe_fld (pv 0) rfl) (pe_un un_neg pe_int) (fun _ _ => rfl)) (pe_fld (pv 0) rfl) (nomark _)))))), ?_⟩
  obtain ⟨p, d, us, rfl, hU, hw, hul, hne, hh, q⟩ := h
  obtain ⟨dx, fs, vh, vs, hs, h1, h2, h3, h4, h5, h6⟩ := hU.ex
  have hpos : 0 < us.length := List.length_pos_iff.mpr hne
  refine ⟨_, rfl, p, cl.U, dx, fs, _, rfl, h1, T.c_U, T.n_U_calling, h2, len_s (by rw [tx_length, sizeLine_eq]; omega) ⟨_, _, rfl, rfl, ?_⟩⟩
  refine ⟨_, rfl, iP (decide_eq_true (by rw [tx_length]; show (0 : Int) < us.length; omega)) ?_⟩
  rw [List.map_append] at h4
  refine ⟨_, rfl, p, cl.U, dx, fs, _, rfl, h1, T.c_U, T.n_U_row_of_heads, h3, 1, rfl, ix_d h4 (atI_last _ _) fun v5 hv5 => ⟨_, rfl, p, cl.U, dx, fs, _, rfl, h1, T.c_U, T.n_U_start, h5, eq_r hv5.dp h6.dp ?_⟩⟩
  rw [hh, decide_eq_true rfl]
  exact q
end
end L2
set_option Elab.async false
set_option linter.all false
set_option maxRecDepth 100000
set_option maxHeartbeats 4000000
namespace L2
open PySem PySem.Spec PyProof.Rows Evl
section
variable {P : Program} {w : World} {K : PySem.W.Frag} {mg : Str → Option Value} {base : Heap} {f : Addr} {fd : FuncData} {cl : Cls6}
abbrev s__law_leads_on : Stmt := top 101
abbrev N__law_leads_on : List Str := ["_law_book", "_law_conductor", "_law_moves_here", "_law_bell", "_law_table_here", "_law_home", "_law_pair", "_law_memory", "_law_row_here", "_law_letter_here", "_law_after", "_law_goal"]
theorem sc__law_leads_on : FnScope N__law_leads_on ["_law_book", "_law_conductor", "_law_moves_here", "_law_bell", "_law_table_here", "_law_home", "_law_pair"] (defScope s__law_leads_on) := ⟨rfl, rfl, rfl, by decide +kernel, rfl, by decide +kernel, by decide +kernel⟩
def sp__law_leads_on (K : PySem.W.Frag) (cl : Cls6) : Sp := fun vs H Q _ => ∃ (B C M mv : Addr) (x y z : V) (d : Wd) (b : Int) (tb : List (List (Nat × Nat))) (ls : List Nat) (many : Nat) (s : Std), vs = [.ref B, .ref C, .ref mv, .int b, x, y, z] ∧ BookAt K cl H B M d b tb many ∧ CondAt K cl H C M d b tb ∧ CdOk d b tb ls many ∧ MvAt H mv d ∧ SOk d many s ∧
  Dt H x (dTb tb) ∧ Dt H y (dRow (rgI d.st)) ∧ Dt H z (dStd s) ∧ ∀ H', Ex H H' → Q (.bl true) H'
theorem ok__law_leads_on  (T : Txt K mg cl) (F : FnP K "_law_leads_on" "_law_leads_on" s__law_leads_on [] f fd) (G__law_same : GDef P w K mg base "_law_same" 10 ["_law_told", "_law_due"] [] (sp__law_same K 8)) (S_Conductor_call : SDef P w K mg base cl.C "__call__" 4 ["self", "memory", "row"] ((sp_Conductor_call K cl))) (G__law_moved : GDef P w K mg base "_law_moved" 1 ["_law_row_here", "_law_move"] [] ((sp__law_moved K))) (M_Book_followers : MDef P w K mg base cl.B "followers" 11 ["self", "standing"] [] ((sp_Book_followers K cl))) (M_Book_is_stuck : MDef P w K mg base cl.B "is_stuck" 11 ["self", "standing"] [] ((sp_Book_is_stuck K cl))) : FnOk P w K mg base CX0 12 f fd ["_law_book", "_law_conductor", "_law_moves_here", "_law_bell", "_law_table_here", "_law_home", "_law_pair"] ((sp__law_leads_on K cl)) := by
  refine F.ok sc__law_leads_on (fun vs H Q E h => ?_) (fun cdv A outer s H vs Q E hr h => ?_)
  · unfold sp__law_leads_on at h; (repeat obtain ⟨_, h⟩ := h); subst_vars; rfl
  have hu := hr.units
  refine ⟨_, PSs.nox (pss_cons (ps_asg (pv 6) (pg_tup rfl (pgs_cons (pg_name (i := 7) sc__law_leads_on.nd rfl (Or.inl rfl)) (pgs_cons (pg_name (i := 8) sc__law_leads_on.nd rfl (Or.inl rfl)) pgs_nil))))
      (pss_cons (ps_asg (pe_ix (ix_A (P := P) (w := w) (K := K) hu) (pe_ix (ix_A (P := P) (w := w) (K := K) hu) (pv 4) (pv 7) (fun _ _ => rfl)) (pe_bn (P := P) (w := w) (K := K) PySem.F.plainAttrs_tuple PySem.F.slot_tuple_index PySem.F.type_tuple_index mt_tup_indexI (pv 8) (pa_cons (pv 3) pa_nil)) (fun _ _ => rfl)) (pg_tup rfl (pgs_cons (pg_name (i := 9) sc__law_leads_on.nd rfl (Or.inl rfl)) (pgs_cons (pg_name (i := 10) sc__law_leads_on.nd rfl (Or.inl rfl)) pgs_nil))))
      (pss_cons (ps_if (pt_not (pt_val (pe_g G__law_same hr (pa_cons (pe_co S_Conductor_call hr (pv 1) (pa_cons (pv 7) (pa_cons (pv 8) pa_nil))) (pa_cons (pe_tupN (pa_cons (pv 9) (pa_cons (pv 10) pa_nil))) pa_nil))))) pss_never pss_nil)
      (pss_cons (ps_set (i := 11) sc__law_leads_on.nd rfl (Or.inl rfl) (pe_tupN (pa_cons (pv 10) (pa_cons (pe_g G__law_moved hr (pa_cons (pv 8) (pa_cons (pe_ix (ix_A (P := P) (w := w) (K := K) hu) (pv 2) (pv 9) (fun _ _ => rfl)) pa_nil))) pa_nil))))
      (pss_cons (ps_if (pt_cmpR (op_eqA (K := K) hu) (pe_ix (ix_A (P := P) (w := w) (K := K) hu) (pv 11) pe_int (fun _ _ => rfl)) (pv 5) (nomark _)) (pss_one (ps_set (i := 11) sc__law_leads_on.nd rfl (Or.inl rfl) (pe_tupN (pa_cons (pe_un un_neg pe_int) (pa_cons (pv 5) pa_nil))))) pss_nil)
      (pss_one (ps_ret (pe_and (pe_g G__law_same hr (pa_cons (pe_md M_Book_followers hr (pv 0) (pa_cons (pv 6) pa_nil)) (pa_cons (pe_tupN (pa_cons (pe_tupN (pa_cons (pv 9) (pa_cons (pv 11) pa_nil))) pa_nil)) pa_nil))) (pe_one (pe_cmpR op_isC (pe_md M_Book_is_stuck hr (pv 0) (pa_cons (pv 6) pa_nil)) pe_bl (nomark _))))))))))), ?_⟩
  obtain ⟨B, C, M, mv, x, y, z, d, b, tb, ls, many, s, rfl, hB, hC, hc, hmv, hs, hx, hy, hz, q⟩ := h
  have h8 := hc.w.s8
  obtain ⟨row, c1, c2, c3, c4⟩ := cel_ok hc.t hc.b1 hc.b2 hs
  obtain ⟨hpl, hpn⟩ := plc_get hs.pm hc.b1 hc.b2
  have hpm2 := mvD_pm d (cel tb b s).1
  obtain ⟨aZ, oZ, xZ, rfl, hZ1, hZ2, hZ3⟩ := id hz.tupI
  cases hZ3 with
  | cons g1 hZ3 => cases hZ3 with
  | cons g2 hZ3 =>
  cases hZ3
  obtain rfl := g1.intI
  rename_i vr
  have g2 : Dt H vr (dRow s.2) := g2
  refine ⟨_, rfl, aZ, _, rfl, .inl (.inr ⟨oZ, hZ1⟩), rfl, _, _, rfl, _, _, rfl, rfl, ?_⟩
  obtain ⟨aR, oR, rfl, hR1, hR2⟩ := id g2.row
  refine ⟨_, rfl, _, rfl, ix_d hx (d := dCells row) (atZ hs.m0 (by rw [List.getElem?_map, c1]; rfl)) fun v1 hv1 => ?_⟩
  refine ⟨_, rfl, ty_t hR1 hR2, _, rfl, aR, s.2, b, plc b s.2, rfl, rfl, .inl (.inr ⟨oR, hR1⟩), hpl, nodup_first hs.pm.2.2 hpl, ?_⟩
  refine ix_d hv1 (i := ((plc b s.2 : Nat) : Int)) (d := dCell (cel tb b s)) (atN (by rw [List.getElem?_map, c2]; rfl)) fun v2 hv2 => ?_
  obtain ⟨aD, oD, xD, rfl, hD1, hD2, hD3⟩ := id hv2.tupI
  cases hD3 with
  | cons k1 hD3 => cases hD3 with
  | cons k2 hD3 =>
  cases hD3
  obtain rfl := k1.strI
  obtain rfl := k2.intI
  refine ⟨aD, _, rfl, .inl (.inr ⟨oD, hD1⟩), rfl, _, _, rfl, _, _, rfl, rfl, ?_⟩
  obtain ⟨cx, cs, _, n1, _⟩ := hC.ex
  obtain ⟨bx, bs, ve, q0, kb, m1, m2, m3, m4, m5, m6, m7, m8, m9, m10, m11, _⟩ := hB.ex
  refine ⟨_, rfl, C, rfl, _, rfl, _, rfl, cx, cs, n1, C, M, _, d, b, tb, ls, many, s, rfl, hC, g2, hc, hs, fun v3 H3 e3 hv3 => ?_⟩
  refine ⟨_, rfl, _, rfl, tupN_d (ds := [.str (ch (cel tb b s).1), .int ((cel tb b s).2 : Nat)]) (.cons (.str _) (.cons (.int _) .nil)) (by show 2 ≤ 100; decide) fun v4 H4 e4 hv4 => ?_⟩
  have e34 := e3.trans e4
  have dcell : Dsm 8 (dCell (cel tb b s)) := ⟨by show 2 ≤ 1000; decide, fun y hy => by
    rcases List.mem_cons.mp hy with rfl | hy
    · trivial
    · rcases List.mem_singleton.mp hy with rfl
      trivial⟩
  refine ⟨v3, v4, dCell (cel tb b s), rfl, (hv3.ex e4).dp, hv4.dp, dcell, fun H5 e5 => ⟨true, rfl, iF ?_⟩⟩
  have e5' := e34.trans e5
  obtain ⟨km, lm, k14, k15, k16⟩ := hmv.ex e5'
  obtain ⟨vm, hvm, hdm⟩ := k15.get ((k16.mem_iff).mpr (hc.l _ c3))
  refine nx_ ?_
  refine ⟨_, rfl, _, rfl, _, rfl, _, rfl, ix_k (k := .inr (ch (cel tb b s).1)) (.inl k14) hvm ?_⟩
  refine ⟨_, vm, s.2, _, rfl, (g2.ex e5').dp, hdm.dp, mv_bound hs.pm hpm2, by rw [hpm2.1]; exact h8, fun vg H7 e7 hvg => ?_⟩
  refine tupN_d (ds := [.int (nxs d tb b s).1, dRow (nxs d tb b s).2]) (.cons (.int _) (.cons hvg .nil)) (by show 2 ≤ 100; decide) fun v8 H8 e8 hv8 => ?_
  have e9 := (e5'.trans e7).trans e8
  refine gN_ ?_
  dsimp only
  refine seqK (fun σ' H' => ∃ vg, σ' = [some (.ref B), some (.ref C), some (.ref mv), some (.int b), some x, some y, some (.ref aZ), some (.int s.1), some (.ref aR), some (.str (ch (cel tb b s).1)), some (.int ((cel tb b s).2 : Nat)), some vg] ∧ Ex H H' ∧ Dt H' vg (dStd (hm d (nxs d tb b s)))) ?_ (fun k => ?_)
  · rintro σ' H9 ⟨vg, rfl, e9, hvg9⟩
    refine ⟨_, rfl, B, bx, bs, rfl, e9 _ _ m1, m10, _, rfl, B, M, _, d, b, tb, ls, many, s, rfl, hB.ext e9, hz.ex e9, hc, hs.k, fun v10 H10 e10 hv10 => ?_⟩
    rcases wys_cases (tb := tb) (b := b) hs.k with ⟨hm, hw⟩ | ⟨hso, hw⟩
    · have := hs.m0; omega
    rw [hw] at hv10
    refine ⟨_, rfl, _, rfl, tupN_d (ds := [.str (ch (cel tb b s).1), dStd (hm d (nxs d tb b s))]) (.cons (.str _) (.cons (hvg9.ex e10) .nil)) (by show 2 ≤ 100; decide) fun v11 H11 e11 hv11 => ?_⟩
    refine tupN_d (ds := [dWy (nxt d tb b s)]) (.cons hv11 .nil) (by show 1 ≤ 100; decide) fun v12 H12 e12 hv12 => ?_
    have e1012 := e11.trans e12
    have hpmn : (nxt d tb b s).2.2.length ≤ 1000 := by have := (nxt_ok hc.t hc.b1 hc.b2 hs).pm.1; omega
    have dway : Dsm 8 (.tuple [dWy (nxt d tb b s)]) := ⟨by show 1 ≤ 1000; decide, fun y hy => by
      rcases List.mem_singleton.mp hy with rfl
      refine ⟨by show 2 ≤ 1000; decide, fun y hy => ?_⟩
      rcases List.mem_cons.mp hy with rfl | hy
      · trivial
      · rcases List.mem_singleton.mp hy with rfl
        refine ⟨by show 2 ≤ 1000; decide, fun y hy => ?_⟩
        rcases List.mem_cons.mp hy with rfl | hy
        · trivial
        · rcases List.mem_singleton.mp hy with rfl
          refine ⟨by rw [List.length_map]; exact hpmn, fun y hy => ?_⟩
          obtain ⟨i, _, rfl⟩ := List.mem_map.mp hy
          trivial⟩
    refine ⟨v10, v12, .tuple [dWy (nxt d tb b s)], rfl, (hv10.ex e1012).dp, hv12.dp, dway, fun H13 e13 => ⟨true, rfl, iT ?_⟩⟩
    have e913 := ((e9.trans e10).trans e1012).trans e13
    refine ⟨_, rfl, B, bx, bs, rfl, e913 _ _ m1, m11, _, rfl, B, M, _, d, b, tb, ls, many, s, rfl, hB.ext e913, hz.ex e913, hc, hs, fun H14 e14 => ?_⟩
    exact ⟨rfl, .inr ⟨_, rfl⟩, q H14 (e913.trans e14)⟩
  · refine ⟨_, rfl, ix_d hv8 (i := 1) (d := dRow (nxs d tb b s).2) rfl fun v9 hv9 => ⟨_, rfl, eq_r hv9.dp (hy.ex e9).dp ⟨_, rfl, iB (b := decide ((nxs d tb b s).2 = rgI d.st)) rfl (fun e => ?_) (fun e => ?_)⟩⟩⟩
    · have hh := of_decide_eq_true e
      refine ⟨1, rfl, _, rfl, tupN_d (ds := [.int (-1), dRow (rgI d.st)]) (.cons (.int _) (.cons (hy.ex e9) .nil)) (by show 2 ≤ 100; decide) fun v10 H10 e10 hv10 => ?_⟩
      refine k _ _ ⟨v10, rfl, e9.trans e10, ?_⟩
      unfold hm
      rw [if_pos hh]
      exact hv10
    · have hh := of_decide_eq_false e
      refine k _ _ ⟨v8, rfl, e9, ?_⟩
      unfold hm
      rw [if_neg hh]
      exact hv8
end
end L2
set_option Elab.async false
set_option linter.all false
set_option maxRecDepth 100000
set_option maxHeartbeats 4000000
namespace L2
open PySem PySem.Spec PyProof.Rows Evl
section
variable {P : Program} {w : World} {K : PySem.W.Frag} {mg : Str → Option Value} {base : Heap} {f : Addr} {fd : FuncData} {cl : Cls6}
theorem fold_app (n : Nat) (bs : List Nat) : ∀ acc : List Nat, (List.replicate n bs.toArray).foldl (· ++ ·) acc.toArray = (acc ++ (List.replicate n bs).flatten).toArray := by
  induction n with
  | zero => intro acc; simp
  | succ n ih =>
    intro acc
    rw [List.replicate_succ, List.foldl_cons, List.replicate_succ, List.flatten_cons, ← List.append_assoc, ← ih (acc ++ bs)]
    congr 1
    simp
theorem mul_tx {bs : List Nat} {n : Nat} (hn : 1 < n) (hb : 0 < bs.length) : Txt.mul (tx bs) (n : Int) = tx ((List.replicate n bs).flatten) := by
  unfold Txt.mul
  rw [if_neg (by omega), tx_length]
  have h1 : (((n : Int) == 1) || (bs.length == 0)) = false := by
    rw [Bool.or_eq_false_iff, beq_eq_false_iff_ne, beq_eq_false_iff_ne]; omega
  rw [if_neg (by rw [h1]; exact Bool.false_ne_true)]
  have := fold_app n bs []
  show (⟨_⟩ : Str) = ⟨_⟩
  congr 1
theorem tx_app (as bs : List Nat) : tx as ++ tx bs = tx (as ++ bs) := by
  show (⟨as.toArray ++ bs.toArray⟩ : Str) = ⟨(as ++ bs).toArray⟩
  congr 1
  simp
theorem cutS_take {us : List Nat} {k : Nat} (h : k ≤ us.length) : cutS (tx us) none (some (k : Int)) = tx (us.take k) := by
  unfold cutS
  rw [HT.sIx_nat, HT.sIx_none, List.drop_zero, Nat.sub_zero, tx_length, Nat.min_eq_left h]
  rfl
theorem cutS_drop {us : List Nat} {k : Nat} (h : k ≤ us.length) : cutS (tx us) (some (k : Int)) none = tx (us.drop k) := by
  unfold cutS
  rw [HT.sIx_nat, HT.sIx_none, tx_length, Nat.min_eq_left h]
  show (⟨_⟩ : Str) = ⟨_⟩
  congr 2
  show List.take _ (List.drop k us) = _
  rw [List.take_of_length_le (by rw [List.length_drop]; exact Nat.le_refl _)]
/-- the word that is tried -/
structure WdM (d : Wd) (tb : List (List (Nat × Nat))) (b : Int) (z : Int) (ws : List Nat) : Prop where
  n1 : 1 ≤ ws.length
  n399 : ws.length ≤ 399
  l : ∀ c ∈ ws, c ∈ lts d
  p : ∃ t, Pth d tb b (0, rgI d.st) ws t ∧ (z < 0 → wys d tb b t = [])
/-- a text, many times -/
theorem op_mulS {X : Cx} : OpR X (binaryOp .Mult) (fun x y H Q => ∃ (bs : List Nat) (n : Nat), x = .str (tx bs) ∧ y = .int n ∧ 1 < n ∧ 0 < bs.length ∧ bs.length * n ≤ 1000000 ∧ Q (.str (tx ((List.replicate n bs).flatten))) H) := by
  intro pins s σ H x y v u Q I rx ry h
  obtain ⟨bs, n, rfl, rfl, hn, hb, hl, q⟩ := h
  obtain ⟨t, rfl⟩ := rx
  obtain ⟨t', rfl⟩ := ry
  have hn6 : n ≤ 1000000 := Nat.le_trans (Nat.le_mul_of_pos_left n hb) hl
  refine SB.mul ⟨?_, fun h1 h2 => ?_, fun h1 h2 => ?_⟩ fun t' k => ?_
  · rw [decide_eq_false (by omega), decide_eq_false (by omega)]; rfl
  · rw [tx_length]
    have h3 : (bs.length : Int) * (n : Int) ≤ 2 ^ 63 - 1 := by
      have : ((bs.length * n : Nat) : Int) ≤ ((1000000 : Nat) : Int) := Int.ofNat_le.mpr hl
      rw [Int.natCast_mul] at this
      exact Int.le_trans this (by decide)
    have := Int.le_ediv_of_mul_le (show (0 : Int) < (n : Int) by omega) h3
    omega
  · rw [tx_length, Int.toNat_natCast]
    show decide (bs.length * n > sizeLine) = false
    exact decide_eq_false (by rw [sizeLine_eq]; omega)
  · rw [mul_tx hn hb]
    exact ⟨.str _, H, I.tok _, ⟨_, rfl⟩, q⟩
abbrev s__law_bears : Stmt := top 100
abbrev N__law_bears : List Str := ["_law_draw_here", "_law_book", "_law_letters_here", "_law_called", "_law_at", "_law_word", "_law_marks", "_law_k", "_law_others", "_law_letter_here"]
theorem sc__law_bears : FnScope N__law_bears ["_law_draw_here", "_law_book", "_law_letters_here", "_law_called", "_law_at"] (defScope s__law_bears) := ⟨rfl, rfl, rfl, by decide +kernel, rfl, by decide +kernel, by decide +kernel⟩
def sp__law_bears (K : PySem.W.Frag) (cl : Cls6) : Sp := fun vs H Q _ => ∃ (D B M : Addr) (ls us : List Nat) (z : Int) (d : Wd) (b : Int) (tb : List (List (Nat × Nat))) (ls' : List Nat) (many : Nat), vs = [.ref D, .ref B, .str (tx ls), .str (tx us), .int z] ∧ DrawAt K H D ∧ BookAt K cl H B M d b tb many ∧ CdOk d b tb ls' many ∧
  (∀ c ∈ ls, c ∈ lts d) ∧ ls.length ≤ 1000 ∧ (∀ c ∈ us, c ∈ lts d) ∧ 1 ≤ us.length ∧ us.length ≤ 390 ∧
  ((z < 0 ∧ ∃ t, Pth d tb b (0, rgI d.st) us t ∧ wys d tb b t = []) ∨ ∃ j : Nat, z = j ∧ j < us.length ∧ ∃ t, Pth d tb b (0, rgI d.st) us t ∧ Pth d tb b t (us.drop j) t) ∧ ∀ H', Ex H H' → Q (.bl true) H'
theorem ok__law_bears  (T : Txt K mg cl) (F : FnP K "_law_bears" "_law_bears" s__law_bears [] f fd) (G__law_pick : GDef P w K mg base "_law_pick" 2 ["_law_draw_here", "_law_many"] [] ((sp__law_pick K))) (M_Book_bears : MDef P w K mg base cl.B "bears" 4 ["self", "calling"] [] ((sp_Book_bears K cl))) : FnOk P w K mg base CX0 5 f fd ["_law_draw_here", "_law_book", "_law_letters_here", "_law_called", "_law_at"] ((sp__law_bears K cl)) := by
  refine F.ok sc__law_bears (fun vs H Q E h => ?_) (fun cdv A outer s H vs Q E hr h => ?_)
  · unfold sp__law_bears at h; (repeat obtain ⟨_, h⟩ := h); subst_vars; rfl
  have hu := hr.units
  refine ⟨_, PSs.nox (pss_cons (ps_set (i := 5) sc__law_bears.nd rfl (Or.inr rfl) (pv 3))
      (pss_cons (ps_if (pt_cmpR op_ge (pv 4) pe_int (nomark _)) (pss_one (ps_set (i := 5) sc__law_bears.nd rfl (Or.inr rfl) (pe_slice (sl_A (K := K)) (pe_op (op_addA (K := K)) (pv 3) (pe_op op_mulS (pe_slice (sl_A (K := K)) (pv 3) (po_some (pv 4)) po_none) pe_int)) po_none (po_some (pe_op (op_addA (K := K)) (pe_op (op_addA (K := K)) (pe_callB (call_lenA (P := P) (w := w) (K := K)) (by rfl) T.b_len (by decide +kernel) (pa_cons (pv 3) pa_nil)) pe_int) (pe_g G__law_pick hr (pa_cons (pv 0) (pa_cons pe_int pa_nil)))))))) pss_nil)
      (pss_cons (ps_set (i := 6) sc__law_bears.nd rfl (Or.inl rfl) (pe_lst (pa_cons pe_int (pa_cons pe_int (pa_cons (pe_op op_sub (pe_callB (call_lenA (P := P) (w := w) (K := K)) (by rfl) T.b_len (by decide +kernel) (pa_cons (pv 5) pa_nil)) pe_int) (pa_cons (pe_g G__law_pick hr (pa_cons (pv 0) (pa_cons (pe_op (op_addA (K := K)) (pe_callB (call_lenA (P := P) (w := w) (K := K)) (by rfl) T.b_len (by decide +kernel) (pa_cons (pv 5) pa_nil)) pe_int) pa_nil))) (pa_cons (pe_g G__law_pick hr (pa_cons (pv 0) (pa_cons (pe_op (op_addA (K := K)) (pe_callB (call_lenA (P := P) (w := w) (K := K)) (by rfl) T.b_len (by decide +kernel) (pa_cons (pv 5) pa_nil)) pe_int) pa_nil))) (pa_cons (pe_callB (call_lenA (P := P) (w := w) (K := K)) (by rfl) T.b_len (by decide +kernel) (pa_cons (pv 5) pa_nil)) pa_nil))))))))
      (pss_cons (ps_for PassesOwn.never rfl (pi_list (pv 6)) (pg_name (i := 7) sc__law_bears.nd rfl (Or.inr rfl)) (pss_cons (ps_if (pt_cmpR op_isNotC (pe_md M_Book_bears hr (pv 1) (pa_cons (pe_slice (sl_A (K := K)) (pv 5) po_none (po_some (pv 7))) pa_nil)) pe_bl (nomark _)) pss_never pss_nil)
      (pss_cons (ps_setLc (i := 8) (own := [("_law_letter_here", 9)]) rfl sc__law_bears.nd rfl rfl (sw_true rfl rfl rfl (by decide +kernel)) (pi_str (pv 2)) (blkOk_by (N := N__law_bears) (sc := defScope s__law_bears) (by decide +kernel)) (fun _ _ _ _ _ => (pg_name (i := 9) sc__law_bears.nd rfl (Or.inl rfl))) (fun _ _ _ _ _ => (pts_one (PW.pt (pw_or (pt_cmpR (op_eqA (K := K) hu) (pv 7) (pe_callB (call_lenA (P := P) (w := w) (K := K)) (by rfl) T.b_len (by decide +kernel) (pa_cons (pv 5) pa_nil)) (nomark _)) (pw_or1 (pt_cmpR (op_neA (K := K) hu) (pv 9) (pe_ix (ix_A (P := P) (w := w) (K := K) hu) (pv 5) (pv 7) (fun _ _ => rfl)) (nomark _))))))) (fun _ _ _ _ _ => (pv 9)))
      (pss_cons (ps_if (PW.pt (pw_and (pt_cmpR (op_eqA (K := K) hu) (pv 7) (pe_callB (call_lenA (P := P) (w := w) (K := K)) (by rfl) T.b_len (by decide +kernel) (pa_cons (pv 5) pa_nil)) (nomark _)) (pw_and1 (pt_cmpR op_ge (pv 4) pe_int (nomark _))))) (pss_one (ps_set (i := 8) sc__law_bears.nd rfl (Or.inl rfl) (pe_lst pa_nil))) pss_nil)
      (pss_one (ps_if (PW.pt (pw_and (pt_truR (tru_A (P := P) (w := w) (K := K)) (pv 8)) (pw_and1 (pt_cmpR op_isNotC (pe_md M_Book_bears hr (pv 1) (pa_cons (pe_op (op_addA (K := K)) (pe_slice (sl_A (K := K)) (pv 5) po_none (po_some (pv 7))) (pe_ix (ix_A (P := P) (w := w) (K := K) hu) (pv 8) (pe_g G__law_pick hr (pa_cons (pv 0) (pa_cons (pe_callB (call_lenA (P := P) (w := w) (K := K)) (by rfl) T.b_len (by decide +kernel) (pa_cons (pv 8) pa_nil)) pa_nil))) (fun _ _ => rfl))) pa_nil)) pe_bl (nomark _))))) pss_never pss_nil))))))
      (pss_cons (ps_if (pt_cmpR op_lt (pv 4) pe_int (nomark _)) (pss_one (ps_for PassesOwn.never rfl (pi_str (pv 2)) (pg_name (i := 9) sc__law_bears.nd rfl (Or.inl rfl)) (pss_one (ps_if (pt_cmpR op_isNotC (pe_md M_Book_bears hr (pv 1) (pa_cons (pe_op (op_addA (K := K)) (pv 5) (pv 9)) pa_nil)) pe_bl (nomark _)) pss_never pss_nil)))) pss_nil)
      (pss_one (ps_ret pe_bl))))))), ?_⟩
  obtain ⟨D, B, M, ls, us, z, d, b, tb, ls', many, rfl, hD, hB, hc, hls, hll, hus, hu1, hu2, hcs, q⟩ := h
  have hul : us.length ≤ sizeLine := by rw [sizeLine_eq]; omega
  refine ⟨_, rfl, gN_ ?_⟩
  dsimp only
  refine seqK (fun σ' H' => ∃ ws, σ' = [some (.ref D), some (.ref B), some (.str (tx ls)), some (.str (tx us)), some (.int z), some (.str (tx ws)), none, none, none, none] ∧ Ex H H' ∧ WdM d tb b z ws) ?_ (fun k => ?_)
  rotate_left
  · refine ⟨_, rfl, _, _, rfl, rfl, _, rfl, iB (b := decide (0 ≤ z)) rfl (fun e => ?_) (fun e => ?_)⟩
    · have hz := of_decide_eq_true e
      obtain ⟨j, rfl, hj, t, hp1, hp2⟩ : ∃ j : Nat, z = j ∧ j < us.length ∧ ∃ t, Pth d tb b (0, rgI d.st) us t ∧ Pth d tb b t (us.drop j) t := by
        rcases hcs with ⟨h, _⟩ | h
        · omega
        · exact h
      refine ⟨_, rfl, _, rfl, _, rfl, (j : Int), rfl, slc_s (by rw [tx_length]; exact hul) ?_⟩
      rw [cutS_drop (by omega)]
      have hdl : (us.drop j).length = us.length - j := List.length_drop
      have hrl : ((List.replicate 200 (us.drop j)).flatten).length = 200 * (us.length - j) := by rw [List.length_flatten, List.map_replicate, List.sum_replicate_nat, hdl]
      refine ⟨us.drop j, 200, rfl, rfl, by decide, by omega, by omega, add_s (by rw [tx_length, tx_length, hrl, sizeLine_eq]; omega) ?_⟩
      refine ⟨_, rfl, len_s (by rw [tx_length]; exact hul) (add_i ⟨_, rfl, D, 9, rfl, hD, by decide, fun r hr => add_i ⟨_, rfl, ?_⟩⟩)⟩
      rw [tx_app, show ((tx us).length : Int) + 1 + (r : Int) = ((us.length + 1 + r : Nat) : Int) by rw [tx_length]; omega]
      have hr8 : r ≤ 8 := by omega
      have hlen : us.length + 1 + r ≤ (us ++ (List.replicate 200 (us.drop j)).flatten).length := by rw [List.length_append, hrl]; omega
      refine slc_s (by rw [tx_length, List.length_append, hrl, sizeLine_eq]; omega) ?_
      rw [cutS_take hlen]
      obtain ⟨u, hu, _⟩ := (hp1.app (hp2.rep 200)).take (us.length + 1 + r)
      refine k _ _ ⟨_, rfl, Ex.refl _, by rw [List.length_take, Nat.min_eq_left hlen]; omega, by rw [List.length_take, Nat.min_eq_left hlen]; omega, fun c hcm => ?_, u, hu, fun h => by omega⟩
      rcases List.mem_append.mp (List.mem_of_mem_take hcm) with h | h
      · exact hus c h
      · obtain ⟨l, hl1, hl2⟩ := List.mem_flatten.mp h
        rw [(List.mem_replicate.mp hl1).2] at hl2
        exact hus c (List.mem_of_mem_drop hl2)
    · have hz := of_decide_eq_false e
      refine k _ _ ⟨us, rfl, Ex.refl _, hu1, by omega, hus, ?_⟩
      rcases hcs with ⟨_, t, h1, h2⟩ | ⟨j, h, _⟩
      · exact ⟨t, h1, fun _ => h2⟩
      · omega
  rintro σ' H1 ⟨ws, rfl, e1, hw⟩
  clear hcs
  have hw1 := hw.n1
  have hw2 := hw.n399
  have hwl : (tx ws).length ≤ sizeLine := by rw [tx_length, sizeLine_eq]; omega
  have hD1 := hD.ex e1
  obtain ⟨t0, hp, hstop⟩ := hw.p
  refine ⟨_, rfl, len_s hwl ⟨_, _, rfl, rfl, _, rfl, _, rfl, len_s hwl (add_i ⟨D, _, rfl, hD1, by rw [tx_length]; omega, fun r1 hr1 => ⟨_, rfl, _, rfl, len_s hwl (add_i ⟨D, _, rfl, hD1, by rw [tx_length]; omega, fun r2 hr2 => ⟨_, rfl, len_s hwl ⟨by show 6 ≤ sizeLine; decide, fun L hL => ?_⟩⟩⟩)⟩⟩)⟩⟩
  rw [tx_length] at hr1 hr2
  refine gN_ ?_
  rw [tx_length]
  have e2 := Ex.new (o := HO.lst [V.int 0, V.int 1, V.int ((ws.length : Int) - 1), V.int r1, V.int r2, V.int ws.length]) hL
  obtain ⟨xs, exs⟩ : ∃ xs, xs = [V.int 0, V.int 1, V.int ((ws.length : Int) - 1), V.int r1, V.int r2, V.int ws.length] := ⟨_, rfl⟩
  have hxs : ∀ x ∈ xs, ∃ m : Nat, x = V.int m ∧ m ≤ ws.length := by
    subst exs
    intro x hx
    simp only [List.mem_cons, List.not_mem_nil, or_false] at hx
    rcases hx with rfl | rfl | rfl | rfl | rfl | rfl
    · exact ⟨0, rfl, by omega⟩
    · exact ⟨1, rfl, hw1⟩
    · exact ⟨ws.length - 1, by congr 1; omega, by omega⟩
    · exact ⟨r1, rfl, by omega⟩
    · exact ⟨r2, rfl, by omega⟩
    · exact ⟨ws.length, rfl, Nat.le_refl _⟩
  rw [← exs] at e2 ⊢
  refine gN_ ?_
  dsimp only
  refine ⟨_, rfl, L, rfl, ⟨_, sq_of upd_same⟩, ?_⟩
  refine for_it (walk_list (xs := xs)) (fun n σ H2 => ∃ t7 t8 t9, σ = [some (.ref D), some (.ref B), some (.str (tx ls)), some (.str (tx us)), some (.int z), some (.str (tx ws)), some (.ref L), t7, t8, t9] ∧ Ex H H2 ∧ H2 L = some (.lst xs))
    ⟨none, none, none, rfl, e1.trans e2, upd_same⟩ (fun n σ H2 _ ⟨_, _, _, _, _, h⟩ => sq_of h) ?_ ?_
  · rintro n x σ H2 H3 hn ⟨t7, t8, t9, rfl, e3, hL3⟩ ⟨rfl, hx⟩
    obtain ⟨m, rfl, hm⟩ := hxs x (List.mem_of_getElem? hx)
    obtain ⟨bx, bs, ve, q0, kb, m1, m2, m3, m4, m5, m6, m7, m8, m9, m10, m11, m12, m13⟩ := hB.ex
    have hwm : ∀ c ∈ ws.take m, c ∈ lts d := fun c h => hw.l c (List.mem_of_mem_take h)
    have hwml : (ws.take m).length = m := by rw [List.length_take, Nat.min_eq_left hm]
    refine ⟨_, rfl, B, bx, bs, rfl, e3 _ _ m1, m13, _, rfl, _, rfl, (m : Int), rfl, slc_s hwl ?_⟩
    rw [cutS_take hm]
    refine ⟨B, M, d, b, tb, ls', many, ws.take m, rfl, hB.ext e3, hc, hwm, by omega, fun H4 e4 => ⟨rfl, .inr ⟨_, rfl⟩, _, rfl, iN (by rw [hp.yes m]; rfl) ?_⟩⟩
    have e34 := e3.trans e4
    refine nx_ ?_
    refine ⟨_, rfl, tx ls, rfl, fun O nO => ?_⟩
    have hk : ∀ c, ws[m]? = some c → m < ws.length := fun c h => (List.getElem?_eq_some_iff.mp h).1
    refine lc_gen (walk_str (z := tx ls)) (fun j acc H => ∃ os : List Nat, acc = os.map (fun o => V.str (ch o)) ∧ ∀ o ∈ os, o ∈ lts d ∧ ∀ c, ws[m]? = some c → o ≠ c) (fun _ _ _ _ t h => h) nO ⟨[], rfl, fun o h => by cases h⟩ (fun _ _ => trivial) ?_ ?_
    · rintro j y acc H5 H6 hj l1 hDl e5 ⟨os, rfl, hos⟩ ⟨rfl, c, hcc, rfl⟩
      have hcj : ls[j]? = some c := by simpa [tx] using hcc
      have hcl := hls c (List.mem_of_getElem? hcj)
      have hj' : j < 1000 := by have := (List.getElem?_eq_some_iff.mp hcj).1; omega
      refine ⟨rfl, ?_⟩
      refine ⟨_, rfl, _, rfl, len_s hwl (eq_i ⟨_, rfl, iB (b := decide (m = ws.length)) ?_ (fun e => ?_) (fun e => ?_)⟩)⟩
      · rw [tx_length, Bool.eq_iff_iff, decide_eq_true_iff, decide_eq_true_iff]; omega
      · have hme := of_decide_eq_true e
        refine iT ⟨_, rfl, LcN.mk (fun _ _ _ _ t h => h) nO hDl e5 (Ex.refl _) l1 (by rw [sizeLine_eq]; omega) ⟨os ++ [c], by rw [List.map_append]; rfl, fun o ho => ?_⟩⟩
        rcases List.mem_append.mp ho with h | h
        · exact hos o h
        · rw [List.mem_singleton.mp h]
          exact ⟨hcl, fun c' hc' => by have := hk c' hc'; omega⟩
      · have hme := of_decide_eq_false e
        have hml : m < ws.length := by omega
        have hwmc := List.getElem?_eq_getElem hml
        refine ⟨_, rfl, _, rfl, _, rfl, ix_s hwl (atN (xs := ws) hwmc) (ne_s ⟨_, rfl, iB (b := !decide (c = ws[m])) ?_ (fun e2 => ?_) (fun e2 => ?_)⟩)⟩
        · congr 1
          rw [Bool.eq_iff_iff, decide_eq_true_iff, decide_eq_true_iff]
          exact ⟨fun h => ch_inj h, fun h => by rw [h]⟩
        · have hne : c ≠ ws[m] := by simpa using e2
          refine ⟨_, rfl, LcN.mk (fun _ _ _ _ t h => h) nO hDl e5 (Ex.refl _) l1 (by rw [sizeLine_eq]; omega) ⟨os ++ [c], by rw [List.map_append]; rfl, fun o ho => ?_⟩⟩
          rcases List.mem_append.mp ho with h | h
          · exact hos o h
          · rw [List.mem_singleton.mp h]
            exact ⟨hcl, fun c' hc' => by rw [hwmc] at hc'; cases hc'; exact hne⟩
        · exact ⟨_, hDl, e5, Nat.le_succ_of_le l1, os, rfl, hos⟩
    rintro ys H5 e5 hO hyl ⟨os, rfl, hos⟩
    refine gN_ ?_
    dsimp only
    have hol : os.length ≤ 1000 := by rw [List.length_map] at hyl; have : (tx ls).cps.size = ls.length := by simp [tx]
                                      omega
    refine seqK (fun σ' H' => ∃ (O : Addr) (os : List Nat), σ' = [some (.ref D), some (.ref B), some (.str (tx ls)), some (.str (tx us)), some (.int z), some (.str (tx ws)), some (.ref L), some (.int m), some (.ref O), t9] ∧ Ex H H' ∧ H' L = some (.lst xs) ∧ H' O = some (.lst (os.map fun o => V.str (ch o))) ∧ os.length ≤ 1000 ∧ ∀ o ∈ os, o ∈ lts d ∧ bearF d tb b (0, rgI d.st) (ws.take m ++ [o]) = false) ?_ (fun k => ?_)
    · rintro σ' H6 ⟨O, os, rfl, e6, hL6, hO6, hol, hos⟩
      cases os with
      | nil =>
        refine ⟨_, rfl, tru_v (k := false) (.inl ⟨[], sq_of hO6, rfl⟩) (iF ?_)⟩
        exact ⟨_, _, _, rfl, e6, hL6⟩
      | cons o0 os' =>
      refine ⟨_, rfl, tru_v (k := true) (.inl ⟨_, sq_of hO6, rfl⟩) (iT ?_)⟩
      refine ⟨_, rfl, B, bx, bs, rfl, e6 _ _ m1, m13, _, rfl, _, rfl, (m : Int), rfl, slc_s hwl ?_⟩
      rw [cutS_take hm]
      refine ⟨_, rfl, _, rfl, _, rfl, len_l (sq_of hO6) ⟨D, _, rfl, hD.ex e6, by rw [List.length_map]; omega, fun r hr => ?_⟩⟩
      rw [List.length_map] at hr
      have hrl : r < (o0 :: os').length := by
        rcases hr with h | h
        · omega
        · rw [h]; exact Nat.zero_lt_succ _
      have hro := List.getElem?_eq_getElem hrl
      refine ix_l (v := .str (ch ((o0 :: os')[r]))) (sq_of hO6) (atN (by rw [List.getElem?_map, hro]; rfl)) ?_
      obtain ⟨ho1, ho2⟩ := hos _ (List.getElem_mem hrl)
      refine add_s (by rw [tx_length, hwml, sizeLine_eq]; show m + 1 ≤ _; omega) ?_
      rw [tx_ch]
      refine ⟨B, M, d, b, tb, ls', many, _, rfl, hB.ext e6, hc, fun c h => ?_, by rw [List.length_append, hwml]; show m + 1 ≤ 400; omega, fun H7 e7 => ⟨rfl, .inr ⟨_, rfl⟩, _, rfl, iN (by rw [ho2]; rfl) ?_⟩⟩
      · rcases List.mem_append.mp h with h | h
        · exact hwm c h
        · rw [List.mem_singleton.mp h]; exact ho1
      · exact ⟨_, _, _, rfl, e6.trans e7, e7 _ _ hL6⟩
    · have e35 := e34.trans e5
      have hL5 := e5 _ _ (e4 _ _ hL3)
      refine ⟨_, rfl, _, rfl, len_s hwl (eq_i ⟨_, rfl, iB (b := decide (m = ws.length)) ?_ (fun e => ?_) (fun e => ?_)⟩)⟩
      · rw [tx_length, Bool.eq_iff_iff, decide_eq_true_iff, decide_eq_true_iff]; omega
      · have hme := of_decide_eq_true e
        refine ⟨_, rfl, _, _, rfl, rfl, _, rfl, iB (b := decide (0 ≤ z)) rfl (fun e => ?_) (fun e => ?_)⟩
        · refine ⟨by show 0 ≤ sizeLine; decide, fun O2 hO2 => ?_⟩
          have e6 := Ex.new (o := HO.lst []) hO2
          exact k _ _ ⟨O2, [], rfl, e35.trans e6, e6 _ _ hL5, upd_same, by show 0 ≤ 1000; decide, fun o h => by cases h⟩
        · have hz := of_decide_eq_false e
          refine k _ _ ⟨O, os, rfl, e35, hL5, hO, hol, fun o h => ⟨(hos o h).1, ?_⟩⟩
          rw [hme, List.take_length]
          exact hp.stop (hstop (by omega)) o
      · have hme := of_decide_eq_false e
        refine iF ?_
        refine k _ _ ⟨O, os, rfl, e35, hL5, hO, hol, fun o h => ⟨(hos o h).1, ?_⟩⟩
        have hwmc := List.getElem?_eq_getElem (show m < ws.length by omega)
        exact hp.no hwmc ((hos o h).2 _ hwmc)
  · rintro σ H2 ⟨t7, t8, t9, rfl, e3, hL3⟩
    refine ⟨_, rfl, _, _, rfl, rfl, _, rfl, iB (b := decide (z < 0)) rfl (fun e => ?_) (fun e => ?_)⟩
    · have hz := of_decide_eq_true e
      refine ⟨_, rfl, tx ls, rfl, ?_⟩
      obtain ⟨bx, bs, ve, q0, kb, m1, m2, m3, m4, m5, m6, m7, m8, m9, m10, m11, m12, m13⟩ := hB.ex
      refine for_it (walk_str (z := tx ls)) (fun n σ H3 => ∃ t9, σ = [some (.ref D), some (.ref B), some (.str (tx ls)), some (.str (tx us)), some (.int z), some (.str (tx ws)), some (.ref L), t7, t8, t9] ∧ Ex H H3) ⟨t9, rfl, e3⟩ (fun _ _ _ _ _ => trivial) ?_ ?_
      · rintro n y σ H3 H4 hn ⟨t9, rfl, e4⟩ ⟨rfl, c, hcc, rfl⟩
        have hcj : ls[n]? = some c := by simpa [tx] using hcc
        have hcl := hls c (List.mem_of_getElem? hcj)
        refine ⟨_, rfl, B, bx, bs, rfl, e4 _ _ m1, m13, _, rfl, _, rfl, add_s (by rw [tx_length, sizeLine_eq]; show ws.length + 1 ≤ _; omega) ?_⟩
        rw [show tx ws ++ (⟨#[c]⟩ : Str) = tx (ws ++ [c]) from tx_ch ws c]
        refine ⟨B, M, d, b, tb, ls', many, _, rfl, hB.ext e4, hc, fun c' h => ?_, by rw [List.length_append]; show ws.length + 1 ≤ 400; omega, fun H7 e7 => ⟨rfl, .inr ⟨_, rfl⟩, _, rfl, iN (by rw [hp.stop (hstop hz) c]; rfl) ?_⟩⟩
        · rcases List.mem_append.mp h with h | h
          · exact hw.l c' h
          · rw [List.mem_singleton.mp h]; exact hcl
        · exact ⟨_, rfl, e4.trans e7⟩
      · rintro σ H3 ⟨t9, rfl, e4⟩
        exact q H3 e4
    · exact q H2 e3
end
end L2
set_option Elab.async false
set_option linter.all false
set_option maxRecDepth 100000
set_option maxHeartbeats 4000000
namespace L2
open PySem PySem.Spec PyProof.Rows Evl
theorem hdF_sq {d : Wd} {tb : List (List (Nat × Nat))} {b : Int} : ∀ n, hdF d (lets d tb b n) = (sq d tb b n).2
  | 0 => rfl
  | n + 1 => by
    rw [lets_succ]
    unfold hdF
    rw [List.foldl_append]
    show tms (hdF d (lets d tb b n)) (mvD d (lt d tb b n)) = _
    rw [hdF_sq n]; rfl
section
variable {P : Program} {w : World} {K : PySem.W.Frag} {mg : Str → Option Value} {base : Heap} {f : Addr} {fd : FuncData} {cl : Cls6}
abbrev s__law_is_his : Stmt := top 102
abbrev N__law_is_his : List Str := ["_law_draw_here", "_law_method", "_law_conductor", "_law_letters_here", "_law_moves_here", "_law_bell", "_law_table_here", "_law_home", "_law_book", "_law_pairs", "_law_called", "_law_at", "_law_verdict", "_law_told", "_law_rows", "_law_due", "_law_some", "_law_turn", "_law_pair", "_law_k"]
theorem sc__law_is_his : FnScope N__law_is_his ["_law_draw_here", "_law_method", "_law_conductor", "_law_letters_here", "_law_moves_here", "_law_bell", "_law_table_here", "_law_home"] (defScope s__law_is_his) := ⟨rfl, rfl, rfl, by decide +kernel, rfl, by decide +kernel, by decide +kernel⟩
def sp__law_is_his (K : PySem.W.Frag) (cl : Cls6) : Sp := fun vs H Q _ => ∃ (D M C mv : Addr) (ls : List Nat) (x y : V) (d : Wd) (b : Int) (tb : List (List (Nat × Nat))) (many : Nat), vs = [.ref D, .ref M, .ref C, .str (tx ls), .ref mv, .int b, x, y] ∧ DrawAt K H D ∧ MethAt K cl H M d ∧ CondAt K cl H C M d b tb ∧ MvAt H mv d ∧ CdOk d b tb ls many ∧ ls.Perm (lts d) ∧
  Dt H x (dTb tb) ∧ Dt H y (dRow (rgI d.st)) ∧ ∀ H', Ex H H' → Q (.bl true) H'
theorem ok__law_is_his  (T : Txt K mg cl) (F : FnP K "_law_is_his" "_law_is_his" s__law_is_his [] f fd) (M_Conductor_as_book : MDef P w K mg base cl.C "as_book" 12 ["self"] [] ((sp_Conductor_as_book K cl))) (G__law_walk : GDef P w K mg base "_law_walk" 2 ["_law_moves_here", "_law_bell", "_law_table_here", "_law_home"] [] ((sp__law_walk K))) (C_RoundVerdict : CDef P w K mg base "RoundVerdict" cl.V 5 ["self", "book"] [] ((sp_RoundVerdict_init K cl))) (M_Conductor_outcome : MDef P w K mg base cl.C "outcome" 4 ["self", "start"] [.non] ((sp_Conductor_outcome K cl))) (S_Method_eq : SDef P w K mg base cl.M "__eq__" 1 ["self", "other"] ((sp_Method_eq K cl))) (S_Book_len : SDef P w K mg base cl.B "__len__" 1 ["self"] ((sp_Book_len K cl))) (S_RoundVerdict_bool : SDef P w K mg base cl.V "__bool__" 1 ["self"] ((sp_RoundVerdict_bool cl))) (G__law_same : GDef P w K mg base "_law_same" 10 ["_law_told", "_law_due"] [] (sp__law_same K 8)) (G_judge_round : GDef P w K mg base "judge_round" 10 ["book", "table"] [] ((sp_judge_round K cl))) (P_Touch_is_round : PDef P w K mg base cl.U "is_round" 1 ((sp_Touch_is_round K cl))) (C_Touch : CDef P w K mg base "Touch" cl.U 4 ["self", "method", "calling", "start"] [.non] ((sp_Touch_init K cl))) (G__law_pick : GDef P w K mg base "_law_pick" 2 ["_law_draw_here", "_law_many"] [] ((sp__law_pick K))) (G__law_row : GDef P w K mg base "_law_row" 3 ["_law_draw_here", "_law_stage"] [] ((sp__law_row K))) (G__law_leads_on : GDef P w K mg base "_law_leads_on" 12 ["_law_book", "_law_conductor", "_law_moves_here", "_law_bell", "_law_table_here", "_law_home", "_law_pair"] [] ((sp__law_leads_on K cl))) (M_Book_followers : MDef P w K mg base cl.B "followers" 11 ["self", "standing"] [] ((sp_Book_followers K cl))) (G__law_bears : GDef P w K mg base "_law_bears" 5 ["_law_draw_here", "_law_book", "_law_letters_here", "_law_called", "_law_at"] [] ((sp__law_bears K cl))) : FnOk P w K mg base CX0 13 f fd ["_law_draw_here", "_law_method", "_law_conductor", "_law_letters_here", "_law_moves_here", "_law_bell", "_law_table_here", "_law_home"] ((sp__law_is_his K cl)) := by
  refine F.ok sc__law_is_his (fun vs H Q E h => ?_) (fun cdv A outer s H vs Q E hr h => ?_)
  · unfold sp__law_is_his at h; (repeat obtain ⟨_, h⟩ := h); subst_vars; rfl
  have hu := hr.units
  refine ⟨_, PSs.nox (pss_cons (ps_set (i := 8) sc__law_is_his.nd rfl (Or.inl rfl) (pe_md0 M_Conductor_as_book hr (pv 2)))
      (pss_cons (ps_asg (pe_g G__law_walk hr (pa_cons (pv 4) (pa_cons (pv 5) (pa_cons (pv 6) (pa_cons (pv 7) pa_nil))))) (pg_tup rfl (pgs_cons (pg_name (i := 9) sc__law_is_his.nd rfl (Or.inr rfl)) (pgs_cons (pg_name (i := 10) sc__law_is_his.nd rfl (Or.inr rfl)) (pgs_cons (pg_name (i := 11) sc__law_is_his.nd rfl (Or.inl rfl)) pgs_nil)))))
      (pss_cons (ps_set (i := 12) sc__law_is_his.nd rfl (Or.inl rfl) (pe_c C_RoundVerdict hr (pa_cons (pv 8) pa_nil)))
      (pss_cons (ps_set (i := 13) sc__law_is_his.nd rfl (Or.inl rfl) (pe_md0 M_Conductor_outcome hr (pv 2)))
      (pss_cons (ps_if (PW.pt (pw_or (pt_cmpR op_isNotC (pe_cmpR (op_eqO S_Method_eq hr) (pe_fld (pv 8) rfl) (pv 1) (nomark _)) pe_bl (nomark _)) (pw_or1 (pt_cmpR (op_neA (K := K) hu) (pe_callB (call_lenO S_Book_len hr) (by rfl) T.b_len (by decide +kernel) (pa_cons (pv 8) pa_nil)) (pe_op op_mul (pe_callB (call_lenA (P := P) (w := w) (K := K)) (by rfl) T.b_len (by decide +kernel) (pa_cons (pv 6) pa_nil)) (pe_callB (call_lenA (P := P) (w := w) (K := K)) (by rfl) T.b_len (by decide +kernel) (pa_cons (pv 7) pa_nil))) (nomark _))))) pss_never pss_nil)
      (pss_cons (ps_if (pt_cmpR op_lt (pv 11) pe_int (nomark _)) (pss_cons (ps_setLc (i := 14) (own := [("_law_k", 19)]) rfl sc__law_is_his.nd rfl rfl (sw_true rfl rfl rfl (by decide +kernel)) (pi_range1 (by rfl) T.b_range (pa_cons (pe_callB (call_lenA (P := P) (w := w) (K := K)) (by rfl) T.b_len (by decide +kernel) (pa_cons (pv 9) pa_nil)) pa_nil)) (blkOk_by (N := N__law_is_his) (sc := defScope s__law_is_his) (by decide +kernel)) (fun _ _ _ _ _ => (pg_name (i := 19) sc__law_is_his.nd rfl (Or.inl rfl))) (fun _ _ _ _ _ => pts_nil) (fun _ _ _ _ _ => (pe_tupN (pa_cons (pe_ix (ix_A (P := P) (w := w) (K := K) hu) (pv 9) (pv 19) (fun _ _ => rfl)) (pa_cons (pe_op op_sub (pe_callB (call_lenA (P := P) (w := w) (K := K)) (by rfl) T.b_len (by decide +kernel) (pa_cons (pv 10) pa_nil)) (pv 19)) pa_nil)))))
      (pss_cons (ps_expr (pe_bm PySem.F.plainAttrs_list PySem.F.slot_list_append PySem.F.type_list_append mt_append (pv 14) (pa_cons (pe_tupN (pa_cons (pe_tupN (pa_cons (pe_un un_neg pe_int) (pa_cons (pv 7) pa_nil))) (pa_cons pe_int pa_nil))) pa_nil)))
      (pss_cons (ps_if (PW.pt (pw_or (pt_not (pt_truR (tru_O S_RoundVerdict_bool hr) (pv 12))) (pw_or (pt_cmpR op_isNotC (pe_fld (pv 12) rfl) pe_non (nomark _)) (pw_or1 (pt_not (pt_val (pe_g G__law_same hr (pa_cons (pe_fld (pv 12) rfl) (pa_cons (pe_callTy (call_tupN (K := K)) (by rfl) T.b_tuple (by decide +kernel) (pa_cons (pv 14) pa_nil)) pa_nil))))))))) pss_never pss_nil)
      (pss_cons (ps_if (PW.pt (pw_or (pt_not (pt_val (pe_g G__law_same hr (pa_cons (pv 13) (pa_cons (pe_tupN (pa_cons pe_str (pa_cons (pv 10) pa_nil))) pa_nil))))) (pw_or1 (pt_cmpR op_isNotC (pe_g G_judge_round hr (pa_cons (pv 8) (pa_cons (pe_fld (pv 12) rfl) pa_nil))) pe_non (nomark _))))) pss_never pss_nil)
      (pss_one (ps_if (pt_cmpR op_isNotC (pe_p P_Touch_is_round hr (pe_c C_Touch hr (pa_cons (pv 1) (pa_cons (pv 10) pa_nil)))) pe_bl (nomark _)) pss_never pss_nil)))))) (pss_cons (ps_set (i := 15) sc__law_is_his.nd rfl (Or.inl rfl) (pe_tupN (pa_cons pe_str (pa_cons (pe_slice (sl_A (K := K)) (pv 10) po_none (po_some (pv 11))) (pa_cons (pe_slice (sl_A (K := K)) (pv 10) (po_some (pv 11)) po_none) pa_nil)))))
      (pss_one (ps_if (PW.pt (pw_or (pt_truR (tru_O S_RoundVerdict_bool hr) (pv 12)) (pw_or (pt_cmpR op_isNotC (pe_fld (pv 12) rfl) pe_non (nomark _)) (pw_or (pt_not (pt_val (pe_g G__law_same hr (pa_cons (pe_fld (pv 12) rfl) (pa_cons (pv 15) pa_nil))))) (pw_or1 (pt_not (pt_val (pe_g G__law_same hr (pa_cons (pv 13) (pa_cons (pv 15) pa_nil)))))))))) pss_never pss_nil))))
      (pss_cons (ps_set (i := 16) sc__law_is_his.nd rfl (Or.inl rfl) (pe_lst (pa_cons (pe_ix (ix_A (P := P) (w := w) (K := K) hu) (pv 9) pe_int (fun _ _ => rfl)) (pa_cons (pe_ix (ix_A (P := P) (w := w) (K := K) hu) (pv 9) (pe_un un_neg pe_int) (fun _ _ => rfl)) (pa_cons (pe_ix (ix_A (P := P) (w := w) (K := K) hu) (pv 9) (pe_g G__law_pick hr (pa_cons (pv 0) (pa_cons (pe_callB (call_lenA (P := P) (w := w) (K := K)) (by rfl) T.b_len (by decide +kernel) (pa_cons (pv 9) pa_nil)) pa_nil))) (fun _ _ => rfl)) (pa_cons (pe_ix (ix_A (P := P) (w := w) (K := K) hu) (pv 9) (pe_g G__law_pick hr (pa_cons (pv 0) (pa_cons (pe_callB (call_lenA (P := P) (w := w) (K := K)) (by rfl) T.b_len (by decide +kernel) (pa_cons (pv 9) pa_nil)) pa_nil))) (fun _ _ => rfl)) pa_nil))))))
      (pss_cons (ps_for PassesOwn.never rfl (pi_range1 (by rfl) T.b_range (pa_cons pe_int pa_nil)) (pg_name (i := 17) sc__law_is_his.nd rfl (Or.inl rfl)) (pss_one (ps_expr (pe_bm PySem.F.plainAttrs_list PySem.F.slot_list_append PySem.F.type_list_append mt_append (pv 16) (pa_cons (pe_tupN (pa_cons (pe_g G__law_pick hr (pa_cons (pv 0) (pa_cons (pe_callB (call_lenA (P := P) (w := w) (K := K)) (by rfl) T.b_len (by decide +kernel) (pa_cons (pv 6) pa_nil)) pa_nil))) (pa_cons (pe_g G__law_row hr (pa_cons (pv 0) (pa_cons (pe_callB (call_lenA (P := P) (w := w) (K := K)) (by rfl) T.b_len (by decide +kernel) (pa_cons (pv 7) pa_nil)) pa_nil))) pa_nil))) pa_nil)))))
      (pss_cons (ps_for PassesOwn.never rfl (pi_list (pv 16)) (pg_name (i := 18) sc__law_is_his.nd rfl (Or.inl rfl)) (pss_one (ps_if (pt_not (pt_val (pe_g G__law_leads_on hr (pa_cons (pv 8) (pa_cons (pv 2) (pa_cons (pv 4) (pa_cons (pv 5) (pa_cons (pv 6) (pa_cons (pv 7) (pa_cons (pv 18) pa_nil)))))))))) pss_never pss_nil)))
      (pss_cons (ps_if (pt_not (pt_val (pe_g G__law_same hr (pa_cons (pe_md M_Book_followers hr (pv 8) (pa_cons (pe_tupN (pa_cons (pe_un un_neg pe_int) (pa_cons (pv 7) pa_nil))) pa_nil)) (pa_cons (pe_tupN pa_nil) pa_nil))))) pss_never pss_nil)
      (pss_one (ps_ret (pe_g G__law_bears hr (pa_cons (pv 0) (pa_cons (pv 8) (pa_cons (pv 3) (pa_cons (pv 10) (pa_cons (pv 11) pa_nil)))))))))))))))))), ?_⟩
  obtain ⟨D, M, C, mv, ls, x, y, d, b, tb, many, rfl, hD, hM, hC, hmv, hc, hls, hx, hy, q⟩ := h
  have h8 := hc.w.s8
  obtain ⟨N, hN⟩ := wk_ex (d := d) hc.t hc.m1 hc.b1 hc.b2 h8 hc.m4
  have n1 := hN.n1
  have n390 := hN.n390
  obtain ⟨cx, cs, vt, n2, n3, n4, n5, n6, n7, n8, n9, n10⟩ := hC.ex
  refine ⟨_, rfl, C, cx, cs, rfl, n2, n10, C, M, d, b, tb, ls, many, rfl, hC, hc, fun B H1 e1 hB => ?_⟩
  refine gN_ ?_
  dsimp only
  refine ⟨_, rfl, _, rfl, _, rfl, _, rfl, mv, b, x, y, d, tb, ls, many, N, rfl, hmv.ex e1, hc.w, hx.ex e1, hy.ex e1, hc.t, hc.l, hc.m1, hc.b1, hc.b2, hN, fun a o p z H2 e2 ha hp hz => ?_⟩
  refine ⟨a, _, rfl, .inl (.inr ⟨o, ha⟩), rfl, _, _, rfl, _, _, rfl, _, _, rfl, rfl, ?_⟩
  obtain ⟨g, T0, zz, hTr, hEnd, hcase⟩ : ∃ (g : Nat → Std) (T0 : Nat) (zz : Option Nat), Trl d tb b many g T0 ∧ EndAt d tb b g T0 zz ∧ ((zz = none ∧ z = -1 ∧ g = trF d tb b N ∧ T0 = N + 1 ∧ (sq d tb b N).2 = rgI d.st) ∨ ∃ j : Nat, zz = some j ∧ z = j ∧ j < N ∧ g = sq d tb b ∧ T0 = N ∧ (sq d tb b N).2 ≠ rgI d.st ∧ sq d tb b j = sq d tb b N) := by
    rcases hz with ⟨hh, hz⟩ | ⟨hh, j, hj, hje, hz⟩
    · obtain ⟨g1, g2, g3⟩ := trl_home hc.t hc.m1 hc.b1 hc.b2 hN hh
      exact ⟨_, _, none, g1, g2, .inl ⟨rfl, hz, rfl, rfl, hh⟩⟩
    · obtain ⟨g1, g2⟩ := trl_loop hc.t hc.m1 hc.b1 hc.b2 hN hh hj hje
      exact ⟨_, _, some j, g1, ⟨hj, g2⟩, .inr ⟨j, rfl, hz, hj, rfl, rfl, hh, hje⟩⟩
  refine ⟨_, rfl, ?_⟩
  intro V0 vx nV nvx neV
  have e3 : Ex H2 (upd (upd H2 vx (.own V0)) V0 (.ins cl.V vx [])) := fun c o hco => by
    rw [upd_ne (ne_of_none hco nV), upd_ne (ne_of_none hco nvx)]; exact hco
  obtain ⟨H3, eH3⟩ : ∃ H3, H3 = upd (upd H2 vx (.own V0)) V0 (.ins cl.V vx []) := ⟨_, rfl⟩
  have hV3 : upd (upd H2 vx (.own V0)) V0 (.ins cl.V vx []) V0 = some (.ins cl.V vx []) := upd_same
  have hB2 := hB.ext e2
  have neVB : V0 ≠ B := fun z => by
    obtain ⟨_, _, _, _, _, hz, _⟩ := hB2.ex
    rw [z, hz] at nV; cases nV
  have neVM : V0 ≠ M := fun z => by
    obtain ⟨_, _, _, _, _, _, _, hm, _⟩ := hB2.ex
    obtain ⟨_, _, _, _, _, _, _, _, _, _, _, _, hz, _⟩ := hm.ex
    rw [z, hz] at nV; cases nV
  rw [← eH3] at e3 hV3 ⊢
  refine ⟨V0, vx, B, M, d, b, tb, ls, many, g, T0, zz, rfl, hV3, neVB, neVM, fun H4 b4 => hB2.ext (b4.ex e3 nV), hc, hTr, hEnd, fun H4 b4 hV4 => ⟨rfl, ?_⟩⟩
  have e4 : Ex H2 H4 := b4.ex e3 nV
  refine gN_ ?_
  dsimp only
  have e24 := e2.trans e4
  have e14 := e1.trans e24
  refine ⟨_, rfl, C, cx, cs, rfl, e14 _ _ n2, n9, C, M, d, b, tb, ls, many, N, rfl, hC.ext e14, hc, hN, fun vt5 z' H5 e5 hz' hv5 => ?_⟩
  obtain rfl : z' = z := by
    rcases hz with ⟨hh, hz⟩ | ⟨hh, j, hj, hje, hz⟩ <;> rcases hz' with ⟨hh', hz'⟩ | ⟨hh', j', hj', hje', hz'⟩
    · rw [hz, hz']
    · exact absurd hh hh'
    · exact absurd hh' hh
    · rw [hz, hz', hN.inj hj hj' (hje.trans hje'.symm)]
  have e15 := e14.trans e5
  have e25 := e24.trans e5
  refine gN_ ?_
  dsimp only
  have hB5 := hB.ext e25
  have hM5 := hM.ext e15
  have hV5 := hV4.ext e5
  obtain ⟨bx, bs, ve, q0, kb, m1, m2, m3, m4, m5, m6, m7, m8, m9, m10, m11, m12, m13⟩ := hB5.ex
  obtain ⟨dy, gs, _, _, _, _, _, _, _, _, _, _, k1, _⟩ := hM5.ex
  refine ⟨_, rfl, B, cl.B, bx, bs, _, rfl, m1, T.c_B, T.n_B_method, m2, _, rfl, M, M, dy, dy, gs, gs, rfl, rfl, k1, k1, M, M, d, rfl, hM5, hM5, hc.w, _, rfl, rfl, .inr ⟨_, rfl⟩, _, rfl, iN rfl ?_⟩
  have hx5 := hx.ex e15
  have hy5 := hy.ex e15
  have hpr : (many : Int) * (d.st : Int) = ((many * d.st : Nat) : Int) := by rw [Int.natCast_mul]
  have hmd : many * d.st ≤ 4 * 8 := Nat.mul_le_mul hc.m4 h8
  have htl := hc.t.len
  refine ⟨_, rfl, B, bx, bs, rfl, m1, B, M, d, b, tb, many, rfl, hB5, _, rfl, by omega, by omega, ?_⟩
  refine ⟨_, rfl, len_t (ds := tb.map dCells) hx5.dp ⟨_, rfl, len_t (ds := (rgI d.st).map PyData.int) hy5.dp ⟨_, _, rfl, rfl, ?_, ?_⟩⟩⟩
  · rw [List.length_map, List.length_map, rgI_length]
    have hm4 := hc.m4
    exact .inl ⟨by omega, by omega⟩
  rw [List.length_map, List.length_map, rgI_length, htl]
  refine ne_i ⟨_, rfl, iN (by rw [hpr, decide_eq_true rfl]; rfl) ?_⟩
  refine nx_ ?_
  dsimp only
  refine seqK (fun σ' H' => ∃ t14 t15, σ' = [some (.ref D), some (.ref M), some (.ref C), some (.str (tx ls)), some (.ref mv), some (.int b), some x, some y, some (.ref B), some (.ref p), some (.str (tx (lets d tb b N))), some (.int z'), some (.ref V0), some vt5, t14, t15, none, none, none, none] ∧ Ex H5 H') ?_ (fun k => ?_)
  · rintro σ' H6 ⟨t14, t15, rfl, e6⟩
    have e16 := e15.trans e6
    obtain ⟨ps, hps1, hps2⟩ := ((hp.ex e4).ex e5).ex e6
    have hpl : ps.length = N := by have := hps2.len; rw [List.length_map, prs_length] at this; exact this
    have hat : ∀ i, i < N → ∃ v, ps[i]? = some v ∧ Dt H6 v (dStd (sq d tb b i)) := fun i hi => hps2.at (by rw [List.getElem?_map, prs_get hi]; rfl)
    obtain ⟨w0, hw0, hd0⟩ := hat 0 (by omega)
    obtain ⟨w1, hw1, hd1⟩ := hat (N - 1) (by omega)
    have hS := fun i => sq_ok (d := d) hc.t hc.m1 hc.b1 hc.b2 i
    have hD6 := hD.ex e16
    have hB6 := hB5.ext e6
    have hC6 := hC.ext e16
    have hmv6 := hmv.ex e16
    have hx6 := hx.ex e16
    have hy6 := hy.ex e16
    have elast : atI ps (-1) = some w1 := by
      unfold atI ixN
      rw [if_neg (by decide), if_pos (by omega)]
      show ps[(-1 + (ps.length : Int)).toNat]? = _
      rw [show (-1 + (ps.length : Int)).toNat = N - 1 by omega]; exact hw1
    refine ⟨_, rfl, ix_l (sq_of hps1) (atN (j := 0) hw0) ⟨_, rfl, 1, rfl, ix_l (sq_of hps1) elast ⟨_, rfl, _, rfl, _, rfl, len_l (sq_of hps1) ⟨D, _, rfl, hD6, by omega, fun r1 hr1 => ?_⟩⟩⟩⟩
    rw [hpl] at hr1
    obtain ⟨w2, hw2, hd2⟩ := hat r1 (by omega)
    refine ix_l (sq_of hps1) (atN hw2) ⟨_, rfl, _, rfl, _, rfl, len_l (sq_of hps1) ⟨D, _, rfl, hD6, by omega, fun r2 hr2 => ?_⟩⟩
    rw [hpl] at hr2
    obtain ⟨w3, hw3, hd3⟩ := hat r2 (by omega)
    refine ix_l (sq_of hps1) (atN hw3) ⟨by show 4 ≤ sizeLine; decide, fun L hL => ?_⟩
    refine gN_ ?_
    dsimp only
    have e7 := Ex.new (o := HO.lst [w0, w1, w2, w3]) hL
    refine ⟨4, rfl, by decide, by decide, ?_⟩
    refine for_it (walk_range (lo := 0) (n := 4)) (fun i σ H7 => ∃ (t17 : Option V) (ss : List Std), σ = [some (.ref D), some (.ref M), some (.ref C), some (.str (tx ls)), some (.ref mv), some (.int b), some x, some y, some (.ref B), some (.ref p), some (.str (tx (lets d tb b N))), some (.int z'), some (.ref V0), some vt5, t14, t15, some (.ref L), t17, none, none] ∧ Ex H6 H7 ∧ DL H7 L (ss.map dStd) ∧ ss.length = 4 + i ∧ ∀ s ∈ ss, SOk d many s)
      ⟨none, [sq d tb b 0, sq d tb b (N - 1), sq d tb b r1, sq d tb b r2], rfl, e7, ⟨_, upd_same, .cons (hd0.ex e7) (.cons (hd1.ex e7) (.cons (hd2.ex e7) (.cons (hd3.ex e7) .nil)))⟩, rfl, fun s hs => ?_⟩ (fun _ _ _ _ _ => trivial) ?_ ?_
    · simp only [List.mem_cons, List.not_mem_nil, or_false] at hs
      rcases hs with rfl | rfl | rfl | rfl <;> exact hS _
    · rintro i y' σ H7 H8 hi ⟨t17, ss, rfl, e7, hL7, hsl, hss⟩ ⟨rfl, rfl⟩
      obtain ⟨vs7, hvs7, hdv7⟩ := hL7
      have hD7 := hD6.ex e7
      refine ⟨_, rfl, .inl ⟨rfl, _, sq_of hvs7⟩, ?_⟩
      refine ⟨_, rfl, _, rfl, len_t (ds := tb.map dCells) (hx6.ex e7).dp ⟨D, _, rfl, hD7, ?_, fun r hr => ?_⟩⟩
      · rw [List.length_map, htl]; have := hc.m4; omega
      rw [List.length_map, htl] at hr
      refine ⟨_, rfl, _, rfl, len_t (ds := (rgI d.st).map PyData.int) (hy6.ex e7).dp ?_⟩
      rw [List.length_map, rgI_length]
      refine ⟨D, d.st, rfl, hD7, h8, fun v8 rw8 H8 e8 hpm8 hv8 => ?_⟩
      refine tupN_d (ds := [.int (r : Int), dRow rw8]) (.cons (.int _) (.cons hv8 .nil)) (by show 2 ≤ 100; decide) fun v9 H9 e9 hv9 => ?_
      have hL9 : DL H9 L (ss.map dStd) := (DL.ex (show DL _ L (ss.map dStd) from ⟨vs7, hvs7, hdv7⟩) e8).ex e9
      refine DL.app (H0 := H6) (d := dStd ((r : Int), rw8)) hL9 (e7.trans (e8.trans e9)) hL hv9 (by rw [List.length_map]; omega) fun H10 e10 hL10 _ _ => ?_
      refine ⟨_, ss ++ [((r : Int), rw8)], rfl, e10, by rw [List.map_append]; exact hL10, by rw [List.length_append]; show ss.length + 1 = _; omega, fun s hs => ?_⟩
      rcases List.mem_append.mp hs with h | h
      · exact hss s h
      · rw [List.mem_singleton.mp h]
        have := hc.m1
        exact ⟨by show (0 : Int) ≤ r; omega, by show (r : Int) < many; omega, hpm8⟩
    · rintro σ H7 ⟨t17, ss, rfl, e7, ⟨vs7, hvs7, hdv7⟩, hsl, hss⟩
      have hvl : vs7.length = ss.length := by have := hdv7.len; rw [List.length_map] at this; exact this
      refine ⟨_, rfl, L, rfl, ⟨_, sq_of hvs7⟩, ?_⟩
      refine for_it (walk_list (xs := vs7)) (fun i σ H8 => ∃ (t18 : Option V), σ = [some (.ref D), some (.ref M), some (.ref C), some (.str (tx ls)), some (.ref mv), some (.int b), some x, some y, some (.ref B), some (.ref p), some (.str (tx (lets d tb b N))), some (.int z'), some (.ref V0), some vt5, t14, t15, some (.ref L), t17, t18, none] ∧ Ex H7 H8) ⟨none, rfl, Ex.refl _⟩ (fun i σ H8 _ ⟨_, _, e8⟩ => sq_of (e8 _ _ hvs7)) ?_ ?_
      · rintro i x' σ H8 H9 hi ⟨t18, rfl, e8⟩ ⟨rfl, hx'⟩
        obtain ⟨dd, hdd, hxd⟩ := hdv7.get hx'
        obtain ⟨s, hs, rfl⟩ := mapD_get hdd
        have e68 := e7.trans e8
        refine ⟨_, rfl, _, rfl, _, rfl, _, rfl, _, rfl, _, rfl, _, rfl, B, C, M, mv, x, y, x', d, b, tb, ls, many, s, rfl, hB6.ext e68, hC6.ext e68, hc, hmv6.ex e68, hss s (List.mem_of_getElem? hs), hx6.ex e68, hy6.ex e68, hxd.ex e8, fun H10 e10 => ⟨true, rfl, iF ?_⟩⟩
        exact ⟨_, rfl, e8.trans e10⟩
      · rintro σ H8 ⟨t18, rfl, e8⟩
        have e68 := e7.trans e8
        have hB8 := hB6.ext e68
        obtain ⟨bx, bs, ve, q0, kb, m1, m2, m3, m4, m5, m6, m7, m8, m9, m10, m11, m12, m13⟩ := hB8.ex
        refine ⟨_, rfl, B, bx, bs, rfl, m1, m10, ?_⟩
        refine ⟨1, rfl, _, rfl, tupN_d (ds := [.int (-1), dRow (rgI d.st)]) (.cons (.int _) (.cons (hy6.ex e68) .nil)) (by show 2 ≤ 100; decide) fun v9 H9 e9 hv9 => ?_⟩
        refine ⟨B, M, v9, d, b, tb, ls, many, (-1, rgI d.st), rfl, hB8.ext e9, hv9, hc, ⟨.inl rfl, rgI_pm d.st⟩, fun v10 H10 e10 hv10 => ?_⟩
        refine tupN_d (ds := []) .nil (by show 0 ≤ 100; decide) fun v11 H11 e11 hv11 => ?_
        have ew : wys d tb b (-1, rgI d.st) = [] := by unfold wys; rw [if_pos (show (-1 : Int) < 0 by decide)]
        rw [ew] at hv10
        refine ⟨v10, v11, .tuple [], rfl, (hv10.ex e11).dp, hv11.dp, ⟨by show 0 ≤ 1000; decide, fun y hy => by cases hy⟩, fun H12 e12 => ⟨true, rfl, iF ?_⟩⟩
        have e612 := e68.trans (((e9.trans e10).trans e11).trans e12)
        refine nx_ ?_
        dsimp only
        have hll : (lets d tb b N).length = N := lets_length
        refine ⟨_, rfl, _, rfl, _, rfl, _, rfl, _, rfl, D, B, M, ls, lets d tb b N, z', d, b, tb, ls, many, rfl, hD6.ex e612, hB6.ext e612, hc, fun c h => hls.mem_iff.mp h, ?_, ?_, by omega, by omega, ?_, fun H13 e13 => ?_⟩
        · rw [hls.length_eq]; have := lts_len hc.w; omega
        · intro c hcm
          unfold lets at hcm
          obtain ⟨i, _, rfl⟩ := List.mem_map.mp hcm
          obtain ⟨_, _, _, c3, _⟩ := cel_ok hc.t hc.b1 hc.b2 (hS i)
          exact hc.l _ c3
        · rcases hz' with ⟨hh, hz'⟩ | ⟨hh, j, hj, hje, hz'⟩
          · exact .inl ⟨by omega, pth_home hc.t hc.m1 hc.b1 hc.b2 hN hh⟩
          · exact .inr ⟨j, hz', by omega, pth_loop hc.t hc.m1 hc.b1 hc.b2 hN hh hj hje⟩
        · exact q H13 ((e16.trans e612).trans e13)
  · refine ⟨_, rfl, _, _, rfl, rfl, _, rfl, iB (b := decide (z' < 0)) rfl (fun e => ?_) (fun e => ?_)⟩
    · have hz0 := of_decide_eq_true e
      obtain ⟨rfl, rfl, rfl, rfl, hh⟩ : zz = none ∧ z' = -1 ∧ g = trF d tb b N ∧ T0 = N + 1 ∧ (sq d tb b N).2 = rgI d.st := by
        rcases hcase with h | ⟨j, _, hz, _⟩
        · exact h
        · omega
      have hll : (lets d tb b N).length = N := lets_length
      have hsl : (tx (lets d tb b N)).length ≤ sizeLine := by rw [tx_length, hll, sizeLine_eq]; omega
      obtain ⟨ps, hps1, hps2⟩ := (hp.ex e4).ex e5
      have hpl : ps.length = N := by have := hps2.len; rw [List.length_map, prs_length] at this; exact this
      refine ⟨_, rfl, len_l (sq_of hps1) ⟨_, rfl, by rw [hpl]; omega, by rw [hpl]; omega, fun O nO => ?_⟩⟩
      have hD5 := hD
      refine lc_gen (walk_range (lo := 0) (n := (ps.length : Int).toNat)) (fun j acc H => DtAll H acc ((List.range j).map (dRank (trF d tb b N) (N + 1)))) (fun _ _ _ _ t h => h.tp t) nO .nil (fun _ _ => trivial) ?_ ?_
      · rintro j y acc H6 H7 hj l1 hDl e6 hacc ⟨rfl, rfl⟩
        rw [hpl, Int.toNat_natCast] at hj
        have hjp := List.getElem?_eq_getElem (show j < ps.length by omega)
        obtain ⟨dd, hdd, hyd⟩ := (hps2.ex e6).get hjp
        obtain ⟨s, hs, rfl⟩ := mapD_get hdd
        obtain rfl : s = sq d tb b j := by
          unfold prs at hs
          rw [List.getElem?_map, List.getElem?_range hj] at hs
          exact (Option.some.inj hs).symm
        refine ⟨rfl, yT ?_⟩
        refine ⟨_, rfl, _, rfl, ix_l (v := ps[j]) (sq_of (e6 _ _ hps1)) (by rw [Int.zero_add]; exact atN hjp) ?_⟩
        refine ⟨_, rfl, len_s hsl ⟨_, rfl, _, _, rfl, rfl, ?_⟩⟩
        rw [tx_length, hll]
        dsimp only
        rw [show (N : Int) - (0 + (j : Int)) = ((N + 1 - 1 - j : Nat) : Int) by omega]
        refine tupN_d (ds := [dStd (sq d tb b j), .int ((N + 1 - 1 - j : Nat) : Int)]) (.cons hyd (.cons (.int _) .nil)) (by show 2 ≤ 100; decide) fun v9 H10 e10 hv9 => ?_
        refine LcN.mk (fun _ _ _ _ t h => h.tp t) nO hDl e6 e10 l1 (by rw [sizeLine_eq]; omega) ?_
        rw [List.range_succ, List.map_append]
        refine (hacc.ex e10).snoc ?_
        show Dt _ _ (.tuple [dStd (trF d tb b N j), _])
        rw [show trF d tb b N j = sq d tb b j from if_neg (by omega)]
        exact hv9
      rintro ys H6 e6 hO hyl hys
      rw [hpl, Int.toNat_natCast] at hys
      refine gN_ ?_
      dsimp only
      refine ⟨_, rfl, .inl ⟨rfl, _, sq_of hO⟩, 1, rfl, _, rfl, tupN_d (ds := [.int (-1), dRow (rgI d.st)]) (.cons (.int _) (.cons (hy5.ex e6) .nil)) (by show 2 ≤ 100; decide) fun v8 H8 e8 hv8 => ?_⟩
      refine tupN_d (ds := [dStd (-1, rgI d.st), .int 0]) (.cons hv8 (.cons (.int _) .nil)) (by show 2 ≤ 100; decide) fun v9 H9 e9 hv9 => ?_
      have e89 := e8.trans e9
      refine ⟨O, _, _, rfl, rfl, e89 _ _ hO, by have := hys.len; rw [List.length_map, List.length_range] at this; rw [this, sizeLine_eq]; omega, ?_⟩
      have e69 := e6.trans e89
      have e10 : Ex H5 (upd H9 O (.lst (ys ++ [v9]))) := e69.mut nO
      have t10 : Tp H9 (upd H9 O (.lst (ys ++ [v9]))) := Tp.upd (Sft.lst (e89 _ _ hO))
      have hO10 : upd H9 O (.lst (ys ++ [v9])) O = some (.lst (ys ++ [v9])) := upd_same
      have hds : DtAll (upd H9 O (.lst (ys ++ [v9]))) (ys ++ [v9]) ((List.range (N + 1)).map (dRank (trF d tb b N) (N + 1))) := by
        rw [List.range_succ, List.map_append]
        refine ((hys.ex e89).tp t10).snoc ?_
        show Dt _ _ (.tuple [dStd (trF d tb b N N), .int ((N + 1 - 1 - N : Nat) : Int)])
        rw [show trF d tb b N N = (-1, rgI d.st) from if_pos rfl, show N + 1 - 1 - N = 0 by omega]
        exact hv9.tp t10
      obtain ⟨H10, eH10⟩ : ∃ H10, H10 = upd H9 O (.lst (ys ++ [v9])) := ⟨_, rfl⟩
      rw [← eH10] at e10 hO10 hds ⊢
      have hV10 := hV5.ext e10
      obtain ⟨wx, wf, wb, wt, w1, w2, w3, w4, w5, w6⟩ := id hV10.ex
      obtain rfl := Dt.nonI w3
      refine ⟨_, rfl, V0, wx, wf, rfl, w1, V0, d, b, tb, _, _, _, rfl, hV10, _, rfl, iF ?_⟩
      refine ⟨_, rfl, V0, cl.V, wx, wf, _, rfl, w1, T.c_V, T.n_V_breach, w2, rfl, .inl rfl, _, rfl, iN rfl ?_⟩
      have dtab : Dsm 8 (tbD (trF d tb b N) (N + 1) none) := by
        refine ⟨by rw [List.length_map, List.length_range]; omega, fun y hy => ?_⟩
        obtain ⟨k, hk, rfl⟩ := List.mem_map.mp hy
        have hk := List.mem_range.mp hk
        have hpm := (hTr.ok k hk).pm.1
        refine ⟨by show 2 ≤ 1000; decide, fun y hy => ?_⟩
        simp only [List.mem_cons, List.not_mem_nil, or_false] at hy
        rcases hy with rfl | rfl
        · refine ⟨by show 2 ≤ 1000; decide, fun y hy => ?_⟩
          simp only [List.mem_cons, List.not_mem_nil, or_false] at hy
          rcases hy with rfl | rfl
          · trivial
          · refine ⟨by rw [List.length_map]; omega, fun y hy => ?_⟩
            obtain ⟨i, _, rfl⟩ := List.mem_map.mp hy
            trivial
        · trivial
      refine ⟨_, rfl, V0, cl.V, wx, wf, _, rfl, w1, T.c_V, T.n_V_table, w5, _, rfl, tup_d (sq_of hO10) hds fun v11 H11 e11 hv11 => ?_⟩
      refine ⟨wt, v11, tbD (trF d tb b N) (N + 1) none, rfl, (w6.ex e11).dp, hv11.dp, dtab, fun H12 e12 => ⟨true, rfl, iF ?_⟩⟩
      refine nx_ ?_
      dsimp only
      have e1112 := e11.trans e12
      have e512 := e10.trans e1112
      refine ⟨_, rfl, _, rfl, tupN_d (ds := [.str "round", .str (tx (lets d tb b N))]) (.cons (.str _) (.cons (.str _) .nil)) (by show 2 ≤ 100; decide) fun v13 H13 e13 hv13 => ?_⟩
      have ho : outD (lets d tb b N) (-1) = .tuple [.str "round", .str (tx (lets d tb b N))] := by unfold outD; rw [if_pos (by decide)]
      rw [ho] at hv5
      have dround : Dsm 8 (.tuple [.str "round", .str (tx (lets d tb b N))]) := ⟨by show 2 ≤ 1000; decide, fun y hy => by
        simp only [List.mem_cons, List.not_mem_nil, or_false] at hy
        rcases hy with rfl | rfl <;> trivial⟩
      have e513 := e512.trans e13
      refine ⟨vt5, v13, _, rfl, (hv5.ex e513).dp, hv13.dp, dround, fun H14 e14' => ⟨true, rfl, iF ?_⟩⟩
      have e514 := e513.trans e14'
      have e1014 := (e1112.trans e13).trans e14'
      refine ⟨_, rfl, _, rfl, V0, cl.V, wx, wf, _, rfl, e1014 _ _ w1, T.c_V, T.n_V_table, w5, B, M, wt, d, b, tb, ls, many, _, _, rfl, hB5.ext e514, hc, hTr, hEnd, if_pos rfl, w6.ex e1014, fun H15 e15' => ⟨rfl, .inl rfl, _, rfl, iN rfl ?_⟩⟩
      refine nx_ ?_
      dsimp only
      have e515 := e514.trans e15'
      refine ⟨_, rfl, _, rfl, ?_⟩
      intro U ux nU nux neU
      have eU : Ex H15 (upd (upd H15 ux (.own U)) U (.ins cl.U ux [])) := fun c o hco => by
        rw [upd_ne (ne_of_none hco nU), upd_ne (ne_of_none hco nux)]; exact hco
      obtain ⟨H16, eH16⟩ : ∃ H16, H16 = upd (upd H15 ux (.own U)) U (.ins cl.U ux []) := ⟨_, rfl⟩
      have hU16 : upd (upd H15 ux (.own U)) U (.ins cl.U ux []) U = some (.ins cl.U ux []) := upd_same
      have hM15 := hM5.ext e515
      have neUM : U ≠ M := fun z => by
        obtain ⟨_, _, _, _, _, _, _, _, _, _, _, _, hz, _⟩ := hM15.ex
        rw [z, hz] at nU; cases nU
      rw [← eH16] at eU hU16 ⊢
      have hll' : ∀ c ∈ lets d tb b N, c ∈ lts d := fun c hcm => by
        unfold lets at hcm
        obtain ⟨i, _, rfl⟩ := List.mem_map.mp hcm
        obtain ⟨_, _, _, c3, _⟩ := cel_ok hc.t hc.b1 hc.b2 (sq_ok (d := d) hc.t hc.m1 hc.b1 hc.b2 i)
        exact hc.l _ c3
      refine ⟨U, ux, M, d, lets d tb b N, rfl, hU16, neUM, fun H17 b17 => hM15.ext (b17.ex eU nU), hc.w, hll', by rw [hll]; omega, fun H17 b17 hTou => ⟨rfl, ?_⟩⟩
      have e1517 : Ex H15 H17 := b17.ex eU nU
      obtain ⟨ty, tf, _, _, _, u1, _⟩ := hTou.ex
      refine ⟨U, ty, tf, rfl, u1, U, d, lets d tb b N, rfl, hTou, hc.w, by rw [hll]; omega, fun hnil => by rw [hnil] at hll; simp at hll; omega, by rw [hdF_sq]; exact hh, rfl, .inr ⟨_, rfl⟩, _, rfl, iN rfl ?_⟩
      exact k _ _ ⟨_, _, rfl, e515.trans e1517⟩
    · have hz0 := of_decide_eq_false e
      obtain ⟨j, rfl, rfl, hj, rfl, rfl, hh, hje⟩ : ∃ j : Nat, zz = some j ∧ z' = j ∧ j < N ∧ g = sq d tb b ∧ T0 = N ∧ (sq d tb b N).2 ≠ rgI d.st ∧ sq d tb b j = sq d tb b N := by
        rcases hcase with ⟨_, hz, _⟩ | h
        · omega
        · exact h
      have hll : (lets d tb b T0).length = T0 := lets_length
      have hsl : (tx (lets d tb b T0)).length ≤ sizeLine := by rw [tx_length, hll, sizeLine_eq]; omega
      refine ⟨_, rfl, _, rfl, (j : Int), rfl, slc_s hsl ⟨_, rfl, _, rfl, (j : Int), rfl, slc_s hsl ?_⟩⟩
      rw [cutS_take (by rw [hll]; omega), cutS_drop (by rw [hll]; omega), lets_take (by omega)]
      refine tupN_d (ds := [.str "loop", .str (tx (lets d tb b j)), .str (tx ((lets d tb b T0).drop j))]) (.cons (.str _) (.cons (.str _) (.cons (.str _) .nil))) (by show 3 ≤ 100; decide) fun v6 H6 e6 hv6 => ?_
      refine gN_ ?_
      dsimp only
      have hV6 := hV5.ext e6
      obtain ⟨wx, wf, wb, wt, w1, w2, w3, w4, w5, w6⟩ := hV6.ex
      obtain rfl := Dt.nonI w6
      refine ⟨_, rfl, V0, wx, wf, rfl, w1, V0, d, b, tb, _, _, _, rfl, hV6, _, rfl, iF ?_⟩
      refine ⟨_, rfl, V0, cl.V, wx, wf, _, rfl, w1, T.c_V, T.n_V_table, w5, rfl, .inl rfl, _, rfl, iN rfl ?_⟩
      have dloop : ∀ as bs : List Nat, Dsm 8 (.tuple [.str "loop", .str (tx as), .str (tx bs)]) := fun as bs => ⟨by show 3 ≤ 1000; decide, fun y hy => by
        simp only [List.mem_cons, List.not_mem_nil, or_false] at hy
        rcases hy with rfl | rfl | rfl <;> trivial⟩
      refine ⟨_, rfl, V0, cl.V, wx, wf, _, rfl, w1, T.c_V, T.n_V_breach, w2, _, rfl, wb, v6, _, rfl, w3.dp, hv6.dp, dloop _ _, fun H7 e7 => ⟨true, rfl, iF ?_⟩⟩
      have ho : outD (lets d tb b T0) (j : Int) = .tuple [.str "loop", .str (tx (lets d tb b j)), .str (tx ((lets d tb b T0).drop j))] := by
        unfold outD
        rw [if_neg (by omega), Int.toNat_natCast, lets_take (by omega)]
      rw [ho] at hv5
      have e67 := e6.trans e7
      refine ⟨_, rfl, _, rfl, vt5, v6, _, rfl, (hv5.ex e67).dp, (hv6.ex e7).dp, dloop _ _, fun H8 e8 => ⟨true, rfl, iF ?_⟩⟩
      exact k _ _ ⟨_, _, rfl, e67.trans e8⟩
end
end L2
set_option Elab.async false
set_option linter.all false
set_option maxRecDepth 100000
set_option maxHeartbeats 4000000
namespace L2
open PySem PySem.Spec PyProof.Rows Evl
section
variable {P : Program} {w : World} {K : PySem.W.Frag} {mg : Str → Option Value} {base : Heap} {f : Addr} {fd : FuncData} {cl : Cls6}
abbrev s_law : Stmt := top 103
abbrev N_law : List Str := ["_law_script", "_law_draw_here", "_law_world_here", "_law_stage", "_law_plain", "_law_calls", "_law_method", "_law_letters_here", "_law_moves_here", "_law_home", "_law_bell", "_law_other", "_law_table_here", "_law_second", "_law_one", "_law_two"]
theorem sc_law : FnScope N_law ["_law_script"] (defScope s_law) := ⟨rfl, rfl, rfl, by decide +kernel, rfl, by decide +kernel, by decide +kernel⟩
def sp_law (K : PySem.W.Frag) : Sp := fun vs H Q _ => ∃ (x : Addr) (cs : List Int), vs = [.ref x] ∧ SqL K H x (cs.map V.int) ∧ cs.length ≤ 63 ∧ ∀ H', Q (.bl true) H'
theorem ok_law  (T : Txt K mg cl) (F : FnP K "law" "law" s_law [] f fd) (G__law_draw : GDef P w K mg base "_law_draw" 1 ["_law_script"] [] ((sp__law_draw K))) (G__law_pick : GDef P w K mg base "_law_pick" 2 ["_law_draw_here", "_law_many"] [] ((sp__law_pick K))) (G__law_rich_world : GDef P w K mg base "_law_rich_world" 7 ["_law_draw_here", "_law_least"] [] ((sp__law_rich_world K))) (G__law_wide_world : GDef P w K mg base "_law_wide_world" 4 ["_law_draw_here"] [] ((sp__law_wide_world K))) (C_Method : CDef P w K mg base "Method" cl.M 10 ["self", "stage", "plain", "calls"] [] ((sp_Method_init K cl))) (G__law_letters : GDef P w K mg base "_law_letters" 1 ["_law_world_here"] [] ((sp__law_letters K))) (G__law_moves : GDef P w K mg base "_law_moves" 3 ["_law_world_here"] [] ((sp__law_moves K))) (G__law_rounds : GDef P w K mg base "_law_rounds" 1 ["_law_stage"] [] (sp__law_rounds)) (G__law_any_table : GDef P w K mg base "_law_any_table" 4 ["_law_draw_here", "_law_stage", "_law_letters_here", "_law_moves_here"] [] ((sp__law_any_table K))) (C_Conductor : CDef P w K mg base "Conductor" cl.C 11 ["self", "method", "bell", "table"] [] ((sp_Conductor_init K cl))) (G__law_is_his : GDef P w K mg base "_law_is_his" 13 ["_law_draw_here", "_law_method", "_law_conductor", "_law_letters_here", "_law_moves_here", "_law_bell", "_law_table_here", "_law_home"] [] ((sp__law_is_his K cl))) : FnOk P w K mg base CX0 14 f fd ["_law_script"] ((sp_law K)) := by
  refine F.ok sc_law (fun vs H Q E h => ?_) (fun cdv A outer s H vs Q E hr h => ?_)
  · unfold sp_law at h; (repeat obtain ⟨_, h⟩ := h); subst_vars; rfl
  have hu := hr.units
  refine ⟨_, PSs.nox (pss_cons (ps_set (i := 1) sc_law.nd rfl (Or.inl rfl) (pe_g G__law_draw hr (pa_cons (pv 0) pa_nil)))
      (pss_cons (ps_if (pt_cmpR op_gt (pe_g G__law_pick hr (pa_cons (pv 1) (pa_cons pe_int pa_nil))) pe_int (nomark _)) (pss_one (ps_set (i := 2) sc_law.nd rfl (Or.inl rfl) (pe_g G__law_rich_world hr (pa_cons (pv 1) (pa_cons (pe_g G__law_pick hr (pa_cons (pv 1) (pa_cons pe_int pa_nil))) pa_nil))))) (pss_one (ps_set (i := 2) sc_law.nd rfl (Or.inl rfl) (pe_g G__law_wide_world hr (pa_cons (pv 1) pa_nil)))))
      (pss_cons (ps_asg (pv 2) (pg_tup rfl (pgs_cons (pg_name (i := 3) sc_law.nd rfl (Or.inl rfl)) (pgs_cons (pg_name (i := 4) sc_law.nd rfl (Or.inl rfl)) (pgs_cons (pg_name (i := 5) sc_law.nd rfl (Or.inl rfl)) pgs_nil)))))
      (pss_cons (ps_set (i := 6) sc_law.nd rfl (Or.inl rfl) (pe_c C_Method hr (pa_cons (pv 3) (pa_cons (pv 4) (pa_cons (pv 5) pa_nil)))))
      (pss_cons (ps_set (i := 7) sc_law.nd rfl (Or.inl rfl) (pe_g G__law_letters hr (pa_cons (pv 2) pa_nil)))
      (pss_cons (ps_set (i := 8) sc_law.nd rfl (Or.inl rfl) (pe_g G__law_moves hr (pa_cons (pv 2) pa_nil)))
      (pss_cons (ps_set (i := 9) sc_law.nd rfl (Or.inl rfl) (pe_g G__law_rounds hr (pa_cons (pv 3) pa_nil)))
      (pss_cons (ps_set (i := 10) sc_law.nd rfl (Or.inl rfl) (pe_op (op_addA (K := K)) pe_int (pe_g G__law_pick hr (pa_cons (pv 1) (pa_cons (pv 3) pa_nil)))))
      (pss_cons (ps_set (i := 11) sc_law.nd rfl (Or.inl rfl) (pe_op (op_addA (K := K)) pe_int (pe_g G__law_pick hr (pa_cons (pv 1) (pa_cons (pv 3) pa_nil)))))
      (pss_cons (ps_set (i := 12) sc_law.nd rfl (Or.inl rfl) (pe_g G__law_any_table hr (pa_cons (pv 1) (pa_cons (pv 3) (pa_cons (pv 7) (pa_cons (pv 8) pa_nil))))))
      (pss_cons (ps_set (i := 13) sc_law.nd rfl (Or.inl rfl) (pe_g G__law_any_table hr (pa_cons (pv 1) (pa_cons (pv 3) (pa_cons (pv 7) (pa_cons (pv 8) pa_nil))))))
      (pss_cons (ps_set (i := 14) sc_law.nd rfl (Or.inl rfl) (pe_c C_Conductor hr (pa_cons (pv 6) (pa_cons (pv 10) (pa_cons (pv 12) pa_nil)))))
      (pss_cons (ps_set (i := 15) sc_law.nd rfl (Or.inl rfl) (pe_c C_Conductor hr (pa_cons (pv 6) (pa_cons (pv 11) (pa_cons (pv 13) pa_nil)))))
      (pss_cons (ps_if (pt_not (pt_val (pe_g G__law_is_his hr (pa_cons (pv 1) (pa_cons (pv 6) (pa_cons (pv 14) (pa_cons (pv 7) (pa_cons (pv 8) (pa_cons (pv 10) (pa_cons (pv 12) (pa_cons (pv 9) pa_nil))))))))))) pss_never pss_nil)
      (pss_one (ps_ret (pe_g G__law_is_his hr (pa_cons (pv 1) (pa_cons (pv 6) (pa_cons (pv 15) (pa_cons (pv 7) (pa_cons (pv 8) (pa_cons (pv 11) (pa_cons (pv 13) (pa_cons (pv 9) pa_nil))))))))))))))))))))))))), ?_⟩
  obtain ⟨x, cs, rfl, hx, hl, q⟩ := h
  refine ⟨_, rfl, x, cs, rfl, hx, hl, fun D H1 e1 hD => ?_⟩
  refine gN_ ?_
  dsimp only
  refine seqK (fun σ' H' => ∃ v d, σ' = [some (.ref x), some (.ref D), some v, none, none, none, none, none, none, none, none, none, none, none, none, none] ∧ Ex H1 H' ∧ WdOk d ∧ Dt H' v (dWorld d)) ?_ (fun k => ?_)
  rotate_left
  · refine ⟨_, rfl, D, 3, rfl, hD, by decide, fun r hr => ⟨_, _, rfl, rfl, _, rfl, iB (b := decide ((r : Int) > 0)) rfl (fun e => ?_) (fun e => ?_)⟩⟩
    · refine ⟨_, rfl, _, rfl, D, 2, rfl, hD, by decide, fun r2 hr2 => ⟨D, r2, rfl, hD, by omega, fun v d H2 e2 hd hv => ?_⟩⟩
      exact k _ _ ⟨v, d, rfl, e2, hd, hv⟩
    · refine ⟨_, rfl, D, rfl, hD, fun v d H2 e2 hd hv => ?_⟩
      exact k _ _ ⟨v, d, rfl, e2, hd, hv⟩
  rintro σ' H2 ⟨v, d, rfl, e2, hd, hv⟩
  have h8 := hd.s8
  have h3 := hd.s3
  obtain ⟨aW, oW, xW, rfl, hW1, hW2, hW3⟩ := id hv.tupI
  cases hW3 with
  | cons g1 hW3 => cases hW3 with
  | cons g2 hW3 => cases hW3 with
  | cons g3 hW3 =>
  cases hW3
  obtain rfl := g1.intI
  rename_i vp vc
  refine ⟨_, rfl, aW, _, rfl, .inl (.inr ⟨oW, hW1⟩), rfl, _, _, rfl, _, _, rfl, _, _, rfl, rfl, ?_⟩
  refine ⟨_, rfl, _, rfl, _, rfl, ?_⟩
  intro M mx nM nmx neM
  have e3 : Ex H2 (upd (upd H2 mx (.own M)) M (.ins cl.M mx [])) := fun c o hco => by
    rw [upd_ne (ne_of_none hco nM), upd_ne (ne_of_none hco nmx)]; exact hco
  obtain ⟨H3, eH3⟩ : ∃ H3, H3 = upd (upd H2 mx (.own M)) M (.ins cl.M mx []) := ⟨_, rfl⟩
  have hM3 : upd (upd H2 mx (.own M)) M (.ins cl.M mx []) M = some (.ins cl.M mx []) := upd_same
  rw [← eH3] at e3 hM3 ⊢
  refine ⟨M, mx, vp, vc, d, rfl, hM3, g2.ex e3, g3.ex e3, hd, fun H4 b4 hM4 => ⟨rfl, ?_⟩⟩
  have e4 : Ex H2 H4 := b4.ex e3 nM
  refine gN_ ?_
  dsimp only
  refine ⟨_, rfl, .ref aW, d, rfl, hv.ex e4, by have := hd.c5; omega, fun ls H5 e5 hls => ?_⟩
  refine gN_ ?_
  dsimp only
  have e25 := e4.trans e5
  refine ⟨_, rfl, .ref aW, d, rfl, hv.ex e25, hd, fun mv H6 e6 hmv => ?_⟩
  refine gN_ ?_
  dsimp only
  refine ⟨_, rfl, d.st, rfl, h8, fun y H7 e7 hy => ?_⟩
  refine gN_ ?_
  dsimp only
  have e27 := (e25.trans e6).trans e7
  have hD7 := (hD.ex e2).ex e27
  refine ⟨_, rfl, _, rfl, D, _, rfl, hD7, by omega, fun r1 hr1 => add_i (gN_ ?_)⟩
  dsimp only
  refine ⟨_, rfl, _, rfl, D, _, rfl, hD7, by omega, fun r2 hr2 => add_i (gN_ ?_)⟩
  dsimp only
  have hmv7 := hmv.ex e7
  refine ⟨_, rfl, _, rfl, _, rfl, _, rfl, D, ls, mv, d, rfl, hD7, hmv7, hd, hls, fun va ta ma H8 e8 ma1 ma4 hta hva => ?_⟩
  refine gN_ ?_
  dsimp only
  refine ⟨_, rfl, _, rfl, _, rfl, _, rfl, D, ls, mv, d, rfl, hD7.ex e8, hmv7.ex e8, hd, hls, fun vb tb mb H9 e9 mb1 mb4 htb hvb => ?_⟩
  refine gN_ ?_
  dsimp only
  have hcA : CdOk d (1 + (r1 : Int)) ta ls ma := ⟨hd, hta, fun c h => hls.mem_iff.mp h, by omega, by omega, ma1, ma4⟩
  have hcB : CdOk d (1 + (r2 : Int)) tb ls mb := ⟨hd, htb, fun c h => hls.mem_iff.mp h, by omega, by omega, mb1, mb4⟩
  have e79 := e8.trans e9
  have e49 := ((e5.trans e6).trans e7).trans e79
  have hM9 := hM4.ext e49
  have mne : ∀ {H : Hp} {p : Addr}, MethAt K cl H M d → H p = none → p ≠ M := fun hm hp z => by
    obtain ⟨_, _, _, _, _, _, _, _, _, _, _, _, hz, _⟩ := hm.ex
    rw [z, hz] at hp; cases hp
  refine ⟨_, rfl, _, rfl, _, rfl, ?_⟩
  intro C1 cx nC ncx neC
  have eC : Ex H9 (upd (upd H9 cx (.own C1)) C1 (.ins cl.C cx [])) := fun c o hco => by
    rw [upd_ne (ne_of_none hco nC), upd_ne (ne_of_none hco ncx)]; exact hco
  obtain ⟨H10, eH10⟩ : ∃ H10, H10 = upd (upd H9 cx (.own C1)) C1 (.ins cl.C cx []) := ⟨_, rfl⟩
  have hC10 : upd (upd H9 cx (.own C1)) C1 (.ins cl.C cx []) C1 = some (.ins cl.C cx []) := upd_same
  rw [← eH10] at eC hC10 ⊢
  refine ⟨C1, cx, va, M, d, _, ta, ls, ma, rfl, hC10, mne hM9 nC, (hva.ex e9).ex eC, hM9.ext eC, hcA, fun H11 b11 hA => ⟨rfl, ?_⟩⟩
  have e11 : Ex H9 H11 := b11.ex eC nC
  have hM11 := hM9.ext e11
  have hA11 := hA hM11
  refine gN_ ?_
  dsimp only
  refine ⟨_, rfl, _, rfl, _, rfl, ?_⟩
  intro C2 dx nE ndx neE
  have eE : Ex H11 (upd (upd H11 dx (.own C2)) C2 (.ins cl.C dx [])) := fun c o hco => by
    rw [upd_ne (ne_of_none hco nE), upd_ne (ne_of_none hco ndx)]; exact hco
  obtain ⟨H12, eH12⟩ : ∃ H12, H12 = upd (upd H11 dx (.own C2)) C2 (.ins cl.C dx []) := ⟨_, rfl⟩
  have hC12 : upd (upd H11 dx (.own C2)) C2 (.ins cl.C dx []) C2 = some (.ins cl.C dx []) := upd_same
  rw [← eH12] at eE hC12 ⊢
  refine ⟨C2, dx, vb, M, d, _, tb, ls, mb, rfl, hC12, mne hM11 nE, (hvb.ex e11).ex eE, hM11.ext eE, hcB, fun H13 b13 hB => ⟨rfl, ?_⟩⟩
  have e13 : Ex H11 H13 := b13.ex eE nE
  have hM13 := hM11.ext e13
  have hB13 := hB hM13
  refine gN_ ?_
  dsimp only
  have e913 := e11.trans e13
  have e713 := e79.trans e913
  refine ⟨_, rfl, _, rfl, _, rfl, _, rfl, _, rfl, _, rfl, _, rfl, _, rfl, D, M, C1, mv, ls, va, y, d, _, ta, ma, rfl, hD7.ex e713, hM13, hA11.ext e13, hmv7.ex e713, hcA, hls, (hva.ex e9).ex e913, hy.ex e713, fun H14 e14 => ⟨true, rfl, iF ?_⟩⟩
  refine nx_ ?_
  dsimp only
  have e714 := e713.trans e14
  refine ⟨_, rfl, _, rfl, _, rfl, _, rfl, _, rfl, _, rfl, _, rfl, _, rfl, D, M, C2, mv, ls, vb, y, d, _, tb, mb, rfl, hD7.ex e714, hM13.ext e14, hB13.ext e14, hmv7.ex e714, hcB, hls, (hvb.ex e913).ex e14, hy.ex e714, fun H15 e15 => ?_⟩
  exact q H15
end
end L2
set_option Elab.async false
set_option linter.all false
set_option maxRecDepth 100000
set_option maxHeartbeats 4000000
/-! Truetouch, the head: where each def stands behind the top, and what else of it is told. -/
namespace L2
open PySem PySem.Spec PyProof.Rows ClX
theorem DefW.fnP {K : PySem.W.Frag} {d : DefW} (e : seenW K (d.pl.ad K) = d.want) (c : d.fine K = true) : ∃ fd, FnP K d.nm d.qu d.st (d.vs K) (d.pl.ad K) fd := by
  obtain ⟨kept, c⟩ := He.ba c
  unfold seenW at e
  cases hl : K.lookup (d.pl.ad K) with
  | none => rw [hl] at c; cases c
  | some ob =>
    obtain ⟨cl, di, da, sl⟩ := ob
    rw [hl] at c e
    cases da with
    | func u =>
      obtain ⟨u1, u2, u3, u4, u5, u6, u7, u8, u9, u10, u11, u12, u13, u14, u15⟩ := u
      have e' : (some (u1, u2, u3, u4, u5, u6, u7, u15) : He.FnW) = some (d.nm, d.qu, defArgs d.st, .stmts (defBody d.st), defScope d.st, mainGlobals, [], builtinsNs) := e
      simp only [Option.some.injEq, Prod.mk.injEq] at e'
      obtain ⟨rfl, rfl, rfl, rfl, rfl, rfl, rfl, rfl⟩ := e'
      obtain ⟨c1, c2⟩ := He.ba (show (PySem.W.codeIn K u13 d.qu && He.dflB K u8 (d.vs K)) = true from c)
      exact ⟨_, ⟨cl, di, u8, u9, u10, u11, u12, u13, u14, sl, rfl, hl, c1, He.dflB_ok c2, .inl rfl⟩, kept⟩
    | _ => cases c
section
variable {fa : List He.Fa} {fn : List DefW} {ex : PySem.W.Frag → Bool} {K : PySem.W.Frag}
theorem SayW.one (c : SayW fa fn ex K) : (fa.all (He.Fa.ok K) && (fn.all (DefW.fine K) && ex K)) = true := congrArg Prod.fst c
theorem SayW.fat (c : SayW fa fn ex K) {f : He.Fa} (h : f ∈ fa) : f.ok K = true := List.all_eq_true.mp (He.ba c.one).1 f h
theorem SayW.ext (c : SayW fa fn ex K) : ex K = true := (He.ba (He.ba c.one).2).2
theorem SayW.fnt (c : SayW fa fn ex K) (i : Nat) {d : DefW} (h : fn[i]? = some d) : ∃ fd, FnP K d.nm d.qu d.st (d.vs K) (d.pl.ad K) fd := by
  have e : (fn.map fun d => seenW K (d.pl.ad K))[i]? = (fn.map DefW.want)[i]? := by rw [show (fn.map fun d => seenW K (d.pl.ad K)) = fn.map DefW.want from congrArg Prod.snd c]
  rw [List.getElem?_map, List.getElem?_map, h] at e
  exact DefW.fnP (Option.some.inj e) (List.all_eq_true.mp (He.ba (He.ba c.one).2).1 d (List.mem_of_getElem? h))
end
theorem prB_ok {K : PySem.W.Frag} {c x : Str} (h : prB K c x = true) : PropOf K (He.ga K c) x (He.ma K (He.ga K c) x) (gtr K (He.ma K (He.ga K c) x)) := by
  obtain ⟨h1, h⟩ := He.ba h
  obtain ⟨h2, h⟩ := He.ba h
  obtain ⟨h3, h4⟩ := He.ba h
  refine ⟨He.eqO_ok h1, He.eqO_ok h2, of_decide_eq_true h3, ?_⟩
  unfold gtr
  split at h4
  · rename_i g r e
    rw [e]
    exact ⟨r, rfl⟩
  · cases h4
theorem isB_ok {K : PySem.W.Frag} {c : Str} (hc : Cls K (He.ga K c)) (h : isB K c = true) : IsiC K (He.ga K c) := by
  obtain ⟨h1, h⟩ := He.ba h
  obtain ⟨h2, h⟩ := He.ba h
  obtain ⟨h3, h4⟩ := He.ba h
  refine ⟨fun H a dx fs e => .base (.ins e hc (He.eqO_ok h1) (He.eqO_ok h2) (of_decide_eq_true h3) (of_decide_eq_true h4)), ?_⟩
  unfold PySem.W.kitOne
  rw [if_pos (beq_self_eq_true _)]
theorem cvB_ok {K : PySem.W.Frag} {mg : Str → Option Value} {c f : Str} {v : V} (hg : mg c = some (.ref (He.ga K c))) (h : cvB K c f v = true) : CvD K mg c f v := by
  obtain ⟨h1, h⟩ := He.ba h
  obtain ⟨h2, h3⟩ := He.ba h
  split at h3
  · rename_i u e
    exact ⟨_, _, u, hg, ⟨h1, He.eqO_ok h2⟩, ⟨e, He.relB_ok h3⟩⟩
  · cases h3
/-! ### from a def to its callers' view -/
section
variable {P : Program} {w : World} {K : PySem.W.Frag} {mg : Str → Option Value} {base : Heap} {f : Addr} {fd : FuncData} {st : Stmt} {x q c : Str} {k : Nat} {ps : List Str} {dvs dv : List V} {sp : Sp}
theorem mkG (F : FnP K x q st dv f fd) (ok : FnOk P w K mg base CX0 k f fd ps sp) (hg : mg x = some (.ref f)) (hb : ∃ ds, Vals dvs ds ∧ Binds K fd ps ds) : GDef P w K mg base x k ps dvs sp :=
  hb.elim fun ds z => ⟨f, fd, ds, ok, hg, F.kp, z.2, z.1⟩
theorem mkM {C : Addr} (ok : FnOk P w K mg base CX0 k f fd ps sp) (hc : Cls K C) (hm : Meth K C x f) (hb : ∃ ds, Vals dvs ds ∧ Binds K fd ps ds) : MDef P w K mg base C x k ps dvs sp :=
  hb.elim fun ds z => ⟨f, fd, ds, ok, hc, hm, z.2, z.1⟩
theorem mkC {C : Addr} (ok : FnOk P w K mg base CX0 k f fd ps sp) (hg : mg c = some (.ref C)) (hm : Mk K C f) (hb : ∃ ds, Vals dvs ds ∧ Binds K fd ps ds) : CDef P w K mg base c C k ps dvs sp :=
  hb.elim fun ds z => ⟨f, fd, ds, ok, hg, hm, z.2, z.1⟩
theorem mkP {C p : Addr} (ok : FnOk P w K mg base CX0 k f fd ["self"] sp) (hc : Cls K C) (hp : PropOf K C x p f) (hb : Binds K fd ["self"] []) : PDef P w K mg base C x k sp :=
  ⟨p, f, fd, ok, hc, hp, hb⟩
theorem mkS (ok : FnOk P w K mg base CX0 k (He.ma K (He.ga K c) x) fd ps sp) (hs : spB K c x = true) (hb : Binds K fd ps []) : SDef P w K mg base (He.ga K c) x k ps sp := by
  obtain ⟨h1, h⟩ := He.ba hs
  obtain ⟨h2, h3⟩ := He.ba h
  exact ⟨_, fd, ok, He.eqO_ok h1, h2, hb, h3⟩
theorem bnN (hb : Binds K fd ps []) : ∃ ds, Vals [] ds ∧ Binds K fd ps ds := ⟨[], .nil, hb⟩
/-- all is written, the defaults lie idle -/
theorem bnI (F : FnP K x q st dv f fd) (n : Nat) (hd : dv ≠ []) (hn : n = ps.length)
    (h : ∀ (T : Addr) (kV doc pm : Value) (an : Option Addr) (cdv ct : Value) (us its : List Value), us.length = n → its.length = dv.length →
      ∃ k, bindArgs (PySem.W.fnOf x q (defArgs st) (defBody st) (defScope st) (.ref T) kV doc pm an cdv ct) ⟨us, []⟩ = seqItems? (.ref T) >>= k ∧ k (some its.toArray) = pure (ps.zip us)) : Binds K fd ps [] := by
  obtain ⟨ds, h1, h2⟩ := FunD.binds1 F n dv.length hd (by rw [Nat.sub_self]; omega) fun T kV doc pm an cdv ct us its e1 e2 => by
    obtain ⟨k, h1, h2⟩ := h T kV doc pm an cdv ct us its e1 e2
    exact ⟨k, h1, by rw [h2, ← e2, List.drop_length, List.append_nil]⟩
  rw [List.drop_length] at h1
  cases h1
  exact h2
end
end L2
set_option Elab.async false
set_option linter.all false
set_option maxRecDepth 100000
set_option maxHeartbeats 0
namespace L2
open PySem PySem.Spec PyProof.Rows
/-! Truetouch, the head: every def; the law. -/
abbrev clT (K : PySem.W.Frag) : Cls6 := ⟨He.ga K "Method", He.ga K "Book", He.ga K "Conductor", He.ga K "Outlook", He.ga K "RoundVerdict", He.ga K "Touch"⟩
section
variable {P : Program} {w : World} {K : PySem.W.Frag} {mg : Str → Option Value} {h : Heap}
theorem txtT (X : K.In h) (G : h.Ns mainGlobals mg) (c : SayW faT fnT exT K) : Txt K mg (clT K) := by
  obtain ⟨hxBook_beginning, hxOutlook_stuck, hxTouch_is_round, hxMethod_contains, hxMethod_eq, hxBook_len, hxConductor_call, hxRoundVerdict_bool, hx_is, hx_cv⟩ : prB K "Book" "beginning" = true ∧ prB K "Outlook" "stuck" = true ∧ prB K "Touch" "is_round" = true ∧ spB K "Method" "__contains__" = true ∧ spB K "Method" "__eq__" = true ∧ spB K "Book" "__len__" = true ∧ spB K "Conductor" "__call__" = true ∧ spB K "RoundVerdict" "__bool__" = true ∧ isB K "Method" = true ∧ cvB K "Book" "HOME" (.int (-1)) = true := by
    have z := c.ext
    simp only [exT, Bool.and_eq_true] at z
    exact z
  exact {
    b_tuple := He.free_ok X G (c.fat (List.mem_of_getElem? (i := 0) rfl)),
    b_list := He.free_ok X G (c.fat (List.mem_of_getElem? (i := 1) rfl)),
    b_len := He.free_ok X G (c.fat (List.mem_of_getElem? (i := 2) rfl)),
    b_isinstance := He.free_ok X G (c.fat (List.mem_of_getElem? (i := 3) rfl)),
    b_range := He.free_ok X G (c.fat (List.mem_of_getElem? (i := 4) rfl)),
    b_enumerate := He.free_ok X G (c.fat (List.mem_of_getElem? (i := 5) rfl)),
    b_sorted := He.free_ok X G (c.fat (List.mem_of_getElem? (i := 6) rfl)),
    b_sum := He.free_ok X G (c.fat (List.mem_of_getElem? (i := 7) rfl)),
    b_int := He.free_ok X G (c.fat (List.mem_of_getElem? (i := 8) rfl)),
    b_abs := He.free_ok X G (c.fat (List.mem_of_getElem? (i := 9) rfl)),
    b_max := He.free_ok X G (c.fat (List.mem_of_getElem? (i := 10) rfl)),
    b_bool := He.free_ok X G (c.fat (List.mem_of_getElem? (i := 11) rfl)),
    b_str := He.free_ok X G (c.fat (List.mem_of_getElem? (i := 12) rfl)),
    c_LETTERS := He.str_ok X G (c.fat (List.mem_of_getElem? (i := 13) rfl)),
    c_MOST_LEVELS := He.int_ok X G (c.fat (List.mem_of_getElem? (i := 14) rfl)),
    c_MOST_ENTRIES := He.int_ok X G (c.fat (List.mem_of_getElem? (i := 15) rfl)),
    c_MOST_MEMORIES := He.int_ok X G (c.fat (List.mem_of_getElem? (i := 16) rfl)),
    c_MOST_STANDINGS := He.int_ok X G (c.fat (List.mem_of_getElem? (i := 17) rfl)),
    c_MOST_RANK := He.int_ok X G (c.fat (List.mem_of_getElem? (i := 18) rfl)),
    v_Book_HOME := cvB_ok (He.glo_ok X G (c.fat (List.mem_of_getElem? (i := 21) rfl))) hx_cv,
    g_Method := (He.glo_ok X G (c.fat (List.mem_of_getElem? (i := 19) rfl))),
    i_M := isB_ok (He.cls_ok (c.fat (List.mem_of_getElem? (i := 20) rfl))) hx_is,
    c_M := He.cls_ok (c.fat (List.mem_of_getElem? (i := 20) rfl)),
    n_M_stage := He.noat_ok (c.fat (List.mem_of_getElem? (i := 31) rfl)),
    n_M_plain := He.noat_ok (c.fat (List.mem_of_getElem? (i := 32) rfl)),
    n_M_calls := He.noat_ok (c.fat (List.mem_of_getElem? (i := 33) rfl)),
    n_M_opening := He.noat_ok (c.fat (List.mem_of_getElem? (i := 34) rfl)),
    n_M_leads := He.noat_ok (c.fat (List.mem_of_getElem? (i := 35) rfl)),
    n_M_row_of_letters := He.noat_ok (c.fat (List.mem_of_getElem? (i := 36) rfl)),
    n_M_moves := He.noat_ok (c.fat (List.mem_of_getElem? (i := 37) rfl)),
    n_M_bodies := He.noat_ok (c.fat (List.mem_of_getElem? (i := 38) rfl)),
    c_B := He.cls_ok (c.fat (List.mem_of_getElem? (i := 22) rfl)),
    n_B_method := He.noat_ok (c.fat (List.mem_of_getElem? (i := 39) rfl)),
    n_B_entries := He.noat_ok (c.fat (List.mem_of_getElem? (i := 40) rfl)),
    n_B_by_state := He.noat_ok (c.fat (List.mem_of_getElem? (i := 41) rfl)),
    c_C := He.cls_ok (c.fat (List.mem_of_getElem? (i := 24) rfl)),
    n_C_method := He.noat_ok (c.fat (List.mem_of_getElem? (i := 42) rfl)),
    n_C_bell := He.noat_ok (c.fat (List.mem_of_getElem? (i := 43) rfl)),
    n_C_table := He.noat_ok (c.fat (List.mem_of_getElem? (i := 44) rfl)),
    c_O := He.cls_ok (c.fat (List.mem_of_getElem? (i := 26) rfl)),
    n_O_book := He.noat_ok (c.fat (List.mem_of_getElem? (i := 45) rfl)),
    n_O_callings := He.noat_ok (c.fat (List.mem_of_getElem? (i := 46) rfl)),
    n_O_ways := He.noat_ok (c.fat (List.mem_of_getElem? (i := 47) rfl)),
    n_O_standings := He.noat_ok (c.fat (List.mem_of_getElem? (i := 48) rfl)),
    c_V := He.cls_ok (c.fat (List.mem_of_getElem? (i := 28) rfl)),
    n_V_breach := He.noat_ok (c.fat (List.mem_of_getElem? (i := 49) rfl)),
    n_V_holds := He.noat_ok (c.fat (List.mem_of_getElem? (i := 50) rfl)),
    n_V_table := He.noat_ok (c.fat (List.mem_of_getElem? (i := 51) rfl)),
    n_V_told := He.noat_ok (c.fat (List.mem_of_getElem? (i := 52) rfl)),
    c_U := He.cls_ok (c.fat (List.mem_of_getElem? (i := 30) rfl)),
    n_U_method := He.noat_ok (c.fat (List.mem_of_getElem? (i := 53) rfl)),
    n_U_calling := He.noat_ok (c.fat (List.mem_of_getElem? (i := 54) rfl)),
    n_U_start := He.noat_ok (c.fat (List.mem_of_getElem? (i := 55) rfl)),
    n_U_row_of_heads := He.noat_ok (c.fat (List.mem_of_getElem? (i := 56) rfl)),
    n_U_rows := He.noat_ok (c.fat (List.mem_of_getElem? (i := 57) rfl)) }
theorem lawT (X : K.In h) (G : h.Ns mainGlobals mg) (c : SayW faT fnT exT K) :
    ∃ fd : FuncData, (∀ (s : Shared) (v : Value), BindsTo s fd ⟨[v], []⟩ [("_law_script", v)]) ∧ ∀ base : Heap, FnOk P w K mg base CX0 14 (He.ga K "law") fd ["_law_script"] (sp_law K) := by
  have T := txtT X G c
  obtain ⟨hxBook_beginning, hxOutlook_stuck, hxTouch_is_round, hxMethod_contains, hxMethod_eq, hxBook_len, hxConductor_call, hxRoundVerdict_bool, hx_is, hx_cv⟩ : prB K "Book" "beginning" = true ∧ prB K "Outlook" "stuck" = true ∧ prB K "Touch" "is_round" = true ∧ spB K "Method" "__contains__" = true ∧ spB K "Method" "__eq__" = true ∧ spB K "Book" "__len__" = true ∧ spB K "Conductor" "__call__" = true ∧ spB K "RoundVerdict" "__bool__" = true ∧ isB K "Method" = true ∧ cvB K "Book" "HOME" (.int (-1)) = true := by
    have z := c.ext
    simp only [exT, Bool.and_eq_true] at z
    exact z
  obtain ⟨fd0, F0⟩ : ∃ fd, FnP K "is_integer" "is_integer" s_is_integer [] (He.ga K "is_integer") fd := c.fnt 0 rfl
  obtain ⟨fd1, F1⟩ : ∃ fd, FnP K "flat" "flat" s_flat [] (He.ga K "flat") fd := c.fnt 1 rfl
  obtain ⟨fd2, F2⟩ : ∃ fd, FnP K "is_letter" "is_letter" s_is_letter [] (He.ga K "is_letter") fd := c.fnt 2 rfl
  obtain ⟨fd3, F3⟩ : ∃ fd, FnP K "is_rising" "is_rising" s_is_rising [] (He.ga K "is_rising") fd := c.fnt 3 rfl
  obtain ⟨fd4, F4⟩ : ∃ fd, FnP K "is_places" "is_places" s_is_places [] (He.ga K "is_places") fd := c.fnt 4 rfl
  obtain ⟨fd5, F5⟩ : ∃ fd, FnP K "first_row" "first_row" s_first_row [] (He.ga K "first_row") fd := c.fnt 5 rfl
  obtain ⟨fd6, F6⟩ : ∃ fd, FnP K "times" "times" s_times [] (He.ga K "times") fd := c.fnt 6 rfl
  obtain ⟨fd7, F7⟩ : ∃ fd, FnP K "place_in" "place_in" s_place_in [] (He.ga K "place_in") fd := c.fnt 7 rfl
  obtain ⟨fd8, F8⟩ : ∃ fd, FnP K "change_move" "change_move" s_change_move [] (He.ga K "change_move") fd := c.fnt 8 rfl
  obtain ⟨fd9, F9⟩ : ∃ fd, FnP K "is_sound_row" "is_sound_row" s_is_sound_row [] (He.ga K "is_sound_row") fd := c.fnt 9 rfl
  obtain ⟨fd10, F10⟩ : ∃ fd, FnP K "deep" "deep" s_deep [.int 0] (He.ga K "deep") fd := c.fnt 10 rfl
  obtain ⟨fd11, F11⟩ : ∃ fd, FnP K "is_sound_change" "is_sound_change" s_is_sound_change [] (He.ga K "is_sound_change") fd := c.fnt 11 rfl
  obtain ⟨fd12, F12⟩ : ∃ fd, FnP K "_law_rounds" "_law_rounds" s__law_rounds [] (He.ga K "_law_rounds") fd := c.fnt 12 rfl
  obtain ⟨fd13, F13⟩ : ∃ fd, FnP K "_law_moved" "_law_moved" s__law_moved [] (He.ga K "_law_moved") fd := c.fnt 13 rfl
  obtain ⟨fd14, F14⟩ : ∃ fd, FnP K "_law_is_int" "_law_is_int" s__law_is_int [] (He.ga K "_law_is_int") fd := c.fnt 14 rfl
  obtain ⟨fd15, F15⟩ : ∃ fd, FnP K "_law_draw" "_law_draw" s__law_draw [] (He.ga K "_law_draw") fd := c.fnt 15 rfl
  obtain ⟨fd16, F16⟩ : ∃ fd, FnP K "_law_mix" "_law_mix" s__law_mix [] (He.ga K "_law_mix") fd := c.fnt 16 rfl
  obtain ⟨fd17, F17⟩ : ∃ fd, FnP K "_law_pick" "_law_pick" s__law_pick [] (He.ga K "_law_pick") fd := c.fnt 17 rfl
  obtain ⟨fd18, F18⟩ : ∃ fd, FnP K "_law_change_move" "_law_change_move" s__law_change_move [] (He.ga K "_law_change_move") fd := c.fnt 18 rfl
  obtain ⟨fd19, F19⟩ : ∃ fd, FnP K "_law_change" "_law_change" s__law_change [] (He.ga K "_law_change") fd := c.fnt 19 rfl
  obtain ⟨fd20, F20⟩ : ∃ fd, FnP K "_law_led_change" "_law_led_change" s__law_led_change [] (He.ga K "_law_led_change") fd := c.fnt 20 rfl
  obtain ⟨fd21, F21⟩ : ∃ fd, FnP K "_law_kept_last" "_law_kept_last" s__law_kept_last [] (He.ga K "_law_kept_last") fd := c.fnt 21 rfl
  obtain ⟨fd22, F22⟩ : ∃ fd, FnP K "_law_row" "_law_row" s__law_row [] (He.ga K "_law_row") fd := c.fnt 22 rfl
  obtain ⟨fd23, F23⟩ : ∃ fd, FnP K "_law_letter" "_law_letter" s__law_letter [] (He.ga K "_law_letter") fd := c.fnt 23 rfl
  obtain ⟨fd24, F24⟩ : ∃ fd, FnP K "_law_hunting" "_law_hunting" s__law_hunting [] (He.ga K "_law_hunting") fd := c.fnt 24 rfl
  obtain ⟨fd25, F25⟩ : ∃ fd, FnP K "_law_wide_world" "_law_wide_world" s__law_wide_world [] (He.ga K "_law_wide_world") fd := c.fnt 25 rfl
  obtain ⟨fd26, F26⟩ : ∃ fd, FnP K "_law_world" "_law_world" s__law_world [] (He.ga K "_law_world") fd := c.fnt 26 rfl
  obtain ⟨fd27, F27⟩ : ∃ fd, FnP K "_law_letters" "_law_letters" s__law_letters [] (He.ga K "_law_letters") fd := c.fnt 27 rfl
  obtain ⟨fd28, F28⟩ : ∃ fd, FnP K "_law_lead_of" "_law_lead_of" s__law_lead_of [] (He.ga K "_law_lead_of") fd := c.fnt 28 rfl
  obtain ⟨fd29, F29⟩ : ∃ fd, FnP K "_law_body_of" "_law_body_of" s__law_body_of [] (He.ga K "_law_body_of") fd := c.fnt 29 rfl
  obtain ⟨fd30, F30⟩ : ∃ fd, FnP K "_law_moves" "_law_moves" s__law_moves [] (He.ga K "_law_moves") fd := c.fnt 30 rfl
  obtain ⟨fd31, F31⟩ : ∃ fd, FnP K "_law_heads" "_law_heads" s__law_heads [] (He.ga K "_law_heads") fd := c.fnt 31 rfl
  obtain ⟨fd32, F32⟩ : ∃ fd, FnP K "_law_rich_world" "_law_rich_world" s__law_rich_world [] (He.ga K "_law_rich_world") fd := c.fnt 32 rfl
  obtain ⟨fd33, F33⟩ : ∃ fd, FnP K "_law_table" "_law_table" s__law_table [] (He.ga K "_law_table") fd := c.fnt 33 rfl
  obtain ⟨fd34, F34⟩ : ∃ fd, FnP K "_law_wheel" "_law_wheel" s__law_wheel [] (He.ga K "_law_wheel") fd := c.fnt 34 rfl
  obtain ⟨fd35, F35⟩ : ∃ fd, FnP K "_law_any_table" "_law_any_table" s__law_any_table [] (He.ga K "_law_any_table") fd := c.fnt 35 rfl
  obtain ⟨fd36, F36⟩ : ∃ fd, FnP K "_law_walk" "_law_walk" s__law_walk [] (He.ga K "_law_walk") fd := c.fnt 36 rfl
  obtain ⟨fd37, F37⟩ : ∃ fd, FnP K "_law_same" "_law_same" s__law_same [] (He.ga K "_law_same") fd := c.fnt 37 rfl
  obtain ⟨fd38, F38⟩ : ∃ fd, FnP K "are_changes" "are_changes" s_are_changes [] (He.ga K "are_changes") fd := c.fnt 38 rfl
  obtain ⟨fd39, F39⟩ : ∃ fd, FnP K "check_plain" "check_plain" s_check_plain [] (He.ga K "check_plain") fd := c.fnt 39 rfl
  obtain ⟨fd40, F40⟩ : ∃ fd, FnP K "is_call" "is_call" s_is_call [] (He.ga K "is_call") fd := c.fnt 40 rfl
  obtain ⟨fd41, F41⟩ : ∃ fd, FnP K "check_calls" "check_calls" s_check_calls [] (He.ga K "check_calls") fd := c.fnt 41 rfl
  obtain ⟨fd42, F42⟩ : ∃ fd, FnP K "rows_through" "rows_through" s_rows_through [] (He.ga K "rows_through") fd := c.fnt 42 rfl
  obtain ⟨fd43, F43⟩ : ∃ fd, FnP K "__contains__" "Method.__contains__" s_Method_contains [] (He.ma K (He.ga K "Method") "__contains__") fd := c.fnt 43 rfl
  obtain ⟨fd44, F44⟩ : ∃ fd, FnP K "__eq__" "Method.__eq__" s_Method_eq [] (He.ma K (He.ga K "Method") "__eq__") fd := c.fnt 44 rfl
  obtain ⟨fd45, F45⟩ : ∃ fd, FnP K "__init__" "Method.__init__" s_Method_init [.ref ((He.dflAt ("Method", some "__init__") 0) K)] (He.ma K (He.ga K "Method") "__init__") fd := c.fnt 45 rfl
  obtain ⟨fd46, F46⟩ : ∃ fd, FnP K "check_calling" "check_calling" s_check_calling [] (He.ga K "check_calling") fd := c.fnt 46 rfl
  obtain ⟨fd47, F47⟩ : ∃ fd, FnP K "told_row" "told_row" s_told_row [] (He.ga K "told_row") fd := c.fnt 47 rfl
  obtain ⟨fd48, F48⟩ : ∃ fd, FnP K "are_wants" "are_wants" s_are_wants [] (He.ga K "are_wants") fd := c.fnt 48 rfl
  obtain ⟨fd49, F49⟩ : ∃ fd, FnP K "is_entry" "is_entry" s_is_entry [] (He.ga K "is_entry") fd := c.fnt 49 rfl
  obtain ⟨fd50, F50⟩ : ∃ fd, FnP K "check_entries" "check_entries" s_check_entries [] (He.ga K "check_entries") fd := c.fnt 50 rfl
  obtain ⟨fd51, F51⟩ : ∃ fd, FnP K "is_standing" "is_standing" s_is_standing [] (He.ga K "is_standing") fd := c.fnt 51 rfl
  obtain ⟨fd52, F52⟩ : ∃ fd, FnP K "told_standing" "told_standing" s_told_standing [] (He.ga K "told_standing") fd := c.fnt 52 rfl
  obtain ⟨fd53, F53⟩ : ∃ fd, FnP K "applies" "applies" s_applies [] (He.ga K "applies") fd := c.fnt 53 rfl
  obtain ⟨fd54, F54⟩ : ∃ fd, FnP K "__init__" "Book.__init__" s_Book_init [.ref ((He.dflAt ("Book", some "__init__") 0) K)] (He.ma K (He.ga K "Book") "__init__") fd := c.fnt 54 rfl
  obtain ⟨fd55, F55⟩ : ∃ fd, FnP K "beginning" "Book.beginning" s_Book_beginning [] (gtr K (He.ma K (He.ga K "Book") "beginning")) fd := c.fnt 55 rfl
  obtain ⟨fd56, F56⟩ : ∃ fd, FnP K "__len__" "Book.__len__" s_Book_len [] (He.ma K (He.ga K "Book") "__len__") fd := c.fnt 56 rfl
  obtain ⟨fd57, F57⟩ : ∃ fd, FnP K "ways_from" "Book.ways_from" s_Book_ways_from [] (He.ma K (He.ga K "Book") "ways_from") fd := c.fnt 57 rfl
  obtain ⟨fd58, F58⟩ : ∃ fd, FnP K "followers" "Book.followers" s_Book_followers [] (He.ma K (He.ga K "Book") "followers") fd := c.fnt 58 rfl
  obtain ⟨fd59, F59⟩ : ∃ fd, FnP K "is_stuck" "Book.is_stuck" s_Book_is_stuck [] (He.ma K (He.ga K "Book") "is_stuck") fd := c.fnt 59 rfl
  obtain ⟨fd60, F60⟩ : ∃ fd, FnP K "is_table_row" "is_table_row" s_is_table_row [] (He.ga K "is_table_row") fd := c.fnt 60 rfl
  obtain ⟨fd61, F61⟩ : ∃ fd, FnP K "told_table" "told_table" s_told_table [] (He.ga K "told_table") fd := c.fnt 61 rfl
  obtain ⟨fd62, F62⟩ : ∃ fd, FnP K "__init__" "Conductor.__init__" s_Conductor_init [] (He.ma K (He.ga K "Conductor") "__init__") fd := c.fnt 62 rfl
  obtain ⟨fd63, F63⟩ : ∃ fd, FnP K "goes_on" "Conductor.goes_on" s_Conductor_goes_on [] (He.ma K (He.ga K "Conductor") "goes_on") fd := c.fnt 63 rfl
  obtain ⟨fd64, F64⟩ : ∃ fd, FnP K "__call__" "Conductor.__call__" s_Conductor_call [] (He.ma K (He.ga K "Conductor") "__call__") fd := c.fnt 64 rfl
  obtain ⟨fd65, F65⟩ : ∃ fd, FnP K "outcome" "Conductor.outcome" s_Conductor_outcome [.non] (He.ma K (He.ga K "Conductor") "outcome") fd := c.fnt 65 rfl
  obtain ⟨fd66, F66⟩ : ∃ fd, FnP K "as_book" "Conductor.as_book" s_Conductor_as_book [] (He.ma K (He.ga K "Conductor") "as_book") fd := c.fnt 66 rfl
  obtain ⟨fd67, F67⟩ : ∃ fd, FnP K "fan" "Book.fan" s_Book_fan [] (He.ma K (He.ga K "Book") "fan") fd := c.fnt 67 rfl
  obtain ⟨fd68, F68⟩ : ∃ fd, FnP K "bears" "Book.bears" s_Book_bears [] (He.ma K (He.ga K "Book") "bears") fd := c.fnt 68 rfl
  obtain ⟨fd69, F69⟩ : ∃ fd, FnP K "__init__" "Outlook.__init__" s_Outlook_init [] (He.ma K (He.ga K "Outlook") "__init__") fd := c.fnt 69 rfl
  obtain ⟨fd70, F70⟩ : ∃ fd, FnP K "stuck" "Outlook.stuck" s_Outlook_stuck [] (gtr K (He.ma K (He.ga K "Outlook") "stuck")) fd := c.fnt 70 rfl
  obtain ⟨fd71, F71⟩ : ∃ fd, FnP K "ranks_of" "ranks_of" s_ranks_of [] (He.ga K "ranks_of") fd := c.fnt 71 rfl
  obtain ⟨fd72, F72⟩ : ∃ fd, FnP K "least_loop" "least_loop" s_least_loop [] (He.ga K "least_loop") fd := c.fnt 72 rfl
  obtain ⟨fd73, F73⟩ : ∃ fd, FnP K "breach_of" "breach_of" s_breach_of [] (He.ga K "breach_of") fd := c.fnt 73 rfl
  obtain ⟨fd74, F74⟩ : ∃ fd, FnP K "__init__" "RoundVerdict.__init__" s_RoundVerdict_init [] (He.ma K (He.ga K "RoundVerdict") "__init__") fd := c.fnt 74 rfl
  obtain ⟨fd75, F75⟩ : ∃ fd, FnP K "__bool__" "RoundVerdict.__bool__" s_RoundVerdict_bool [] (He.ma K (He.ga K "RoundVerdict") "__bool__") fd := c.fnt 75 rfl
  obtain ⟨fd76, F76⟩ : ∃ fd, FnP K "is_ranked" "is_ranked" s_is_ranked [] (He.ga K "is_ranked") fd := c.fnt 76 rfl
  obtain ⟨fd77, F77⟩ : ∃ fd, FnP K "is_right_rank" "is_right_rank" s_is_right_rank [] (He.ga K "is_right_rank") fd := c.fnt 77 rfl
  obtain ⟨fd78, F78⟩ : ∃ fd, FnP K "judge_round" "judge_round" s_judge_round [] (He.ga K "judge_round") fd := c.fnt 78 rfl
  obtain ⟨fd79, F79⟩ : ∃ fd, FnP K "__init__" "Touch.__init__" s_Touch_init [.non] (He.ma K (He.ga K "Touch") "__init__") fd := c.fnt 79 rfl
  obtain ⟨fd80, F80⟩ : ∃ fd, FnP K "is_round" "Touch.is_round" s_Touch_is_round [] (gtr K (He.ma K (He.ga K "Touch") "is_round")) fd := c.fnt 80 rfl
  obtain ⟨fd81, F81⟩ : ∃ fd, FnP K "_law_leads_on" "_law_leads_on" s__law_leads_on [] (He.ga K "_law_leads_on") fd := c.fnt 81 rfl
  obtain ⟨fd82, F82⟩ : ∃ fd, FnP K "_law_bears" "_law_bears" s__law_bears [] (He.ga K "_law_bears") fd := c.fnt 82 rfl
  obtain ⟨fd83, F83⟩ : ∃ fd, FnP K "_law_is_his" "_law_is_his" s__law_is_his [] (He.ga K "_law_is_his") fd := c.fnt 83 rfl
  obtain ⟨fd84, F84⟩ : ∃ fd, FnP K "law" "law" s_law [] (He.ga K "law") fd := c.fnt 84 rfl
  refine ⟨fd84, fun s v => F84.bindsA (ps := ["_law_script"]) (fun _ _ _ _ _ _ us hl => match us, hl with | [_], _ => rfl) s [v] rfl, fun base => ?_⟩
  have G_is_integer : GDef P w K mg base "is_integer" 1 ["thing", "low", "high"] [] (sp_is_integer) := mkG F0 (ok_is_integer (cl := clT K) T F0) (He.glo_ok X G (c.fat (List.mem_of_getElem? (i := 58) rfl))) (bnN (F0.bindsN fun _ _ _ _ _ _ us hl => match us, hl with | [_, _, _], _ => rfl))
  have G_flat : GDef P w K mg base "flat" 1 ["thing"] [] ((sp_flat K)) := mkG F1 (ok_flat (cl := clT K) T F1) (He.glo_ok X G (c.fat (List.mem_of_getElem? (i := 59) rfl))) (bnN (F1.bindsN fun _ _ _ _ _ _ us hl => match us, hl with | [_], _ => rfl))
  have G_is_letter : GDef P w K mg base "is_letter" 1 ["thing"] [] (sp_is_letter) := mkG F2 (ok_is_letter (cl := clT K) T F2) (He.glo_ok X G (c.fat (List.mem_of_getElem? (i := 60) rfl))) (bnN (F2.bindsN fun _ _ _ _ _ _ us hl => match us, hl with | [_], _ => rfl))
  have G_is_rising : GDef P w K mg base "is_rising" 2 ["thing", "low", "high"] [] ((sp_is_rising K)) := mkG F3 (ok_is_rising (cl := clT K) T F3 G_is_integer) (He.glo_ok X G (c.fat (List.mem_of_getElem? (i := 61) rfl))) (bnN (F3.bindsN fun _ _ _ _ _ _ us hl => match us, hl with | [_, _, _], _ => rfl))
  have G_is_places : GDef P w K mg base "is_places" 3 ["thing", "stage"] [] ((sp_is_places K)) := mkG F4 (ok_is_places (cl := clT K) T F4 G_is_rising) (He.glo_ok X G (c.fat (List.mem_of_getElem? (i := 62) rfl))) (bnN (F4.bindsN fun _ _ _ _ _ _ us hl => match us, hl with | [_, _], _ => rfl))
  have G_first_row : GDef P w K mg base "first_row" 1 ["stage"] [] (sp_first_row) := mkG F5 (ok_first_row (cl := clT K) T F5) (He.glo_ok X G (c.fat (List.mem_of_getElem? (i := 63) rfl))) (bnN (F5.bindsN fun _ _ _ _ _ _ us hl => match us, hl with | [_], _ => rfl))
  have G_times : GDef P w K mg base "times" 1 ["row", "move"] [] ((sp_times K)) := mkG F6 (ok_times (cl := clT K) T F6) (He.glo_ok X G (c.fat (List.mem_of_getElem? (i := 64) rfl))) (bnN (F6.bindsN fun _ _ _ _ _ _ us hl => match us, hl with | [_, _], _ => rfl))
  have G_place_in : GDef P w K mg base "place_in" 1 ["row", "bell"] [] (sp_place_in) := mkG F7 (ok_place_in (cl := clT K) T F7) (He.glo_ok X G (c.fat (List.mem_of_getElem? (i := 65) rfl))) (bnN (F7.bindsN fun _ _ _ _ _ _ us hl => match us, hl with | [_, _], _ => rfl))
  have G_change_move : GDef P w K mg base "change_move" 1 ["change", "stage"] [] ((sp_change_move K)) := mkG F8 (ok_change_move (cl := clT K) T F8) (He.glo_ok X G (c.fat (List.mem_of_getElem? (i := 66) rfl))) (bnN (F8.bindsN fun _ _ _ _ _ _ us hl => match us, hl with | [_, _], _ => rfl))
  have G_is_sound_row : GDef P w K mg base "is_sound_row" 2 ["thing", "stage"] [] ((sp_is_sound_row K)) := mkG F9 (ok_is_sound_row (cl := clT K) T F9 G_is_integer) (He.glo_ok X G (c.fat (List.mem_of_getElem? (i := 67) rfl))) (bnN (F9.bindsN fun _ _ _ _ _ _ us hl => match us, hl with | [_, _], _ => rfl))
  have G_deepR : ∀ n, GDef P w K mg base "deep" (n + 1) ["thing", "level"] [] (sp_deep K n) := fun n => by
    induction n with
    | zero => exact mkG F10 (ok_deep0 (cl := clT K) T F10) (He.glo_ok X G (c.fat (List.mem_of_getElem? (i := 68) rfl))) (bnN (bnI F10 2 (List.cons_ne_nil _ _) rfl fun _ _ _ _ _ _ _ us its e1 e2 => match us, e1, its, e2 with | [_, _], _, [_], _ => ⟨_, rfl, rfl⟩))
    | succ n ih => exact mkG F10 (ok_deep (cl := clT K) T F10 ih) (He.glo_ok X G (c.fat (List.mem_of_getElem? (i := 68) rfl))) (bnN (bnI F10 2 (List.cons_ne_nil _ _) rfl fun _ _ _ _ _ _ _ us its e1 e2 => match us, e1, its, e2 with | [_, _], _, [_], _ => ⟨_, rfl, rfl⟩))
  have G_deep : GDef P w K mg base "deep" 9 ["thing", "level"] [.int 0] (sp_deep K 8) := mkG F10 (ok_deep (cl := clT K) T F10 (G_deepR 7)) (He.glo_ok X G (c.fat (List.mem_of_getElem? (i := 68) rfl))) (FunD.binds1 F10 1 0 (List.cons_ne_nil _ _) rfl fun _ _ _ _ _ _ _ us its e1 e2 => match us, e1, its, e2 with | [_], _, [_], _ => ⟨_, rfl, rfl⟩)
  have G_is_sound_change : GDef P w K mg base "is_sound_change" 3 ["thing", "stage"] [] ((sp_is_sound_change K)) := mkG F11 (ok_is_sound_change (cl := clT K) T F11 G_is_rising) (He.glo_ok X G (c.fat (List.mem_of_getElem? (i := 69) rfl))) (bnN (F11.bindsN fun _ _ _ _ _ _ us hl => match us, hl with | [_, _], _ => rfl))
  have G__law_rounds : GDef P w K mg base "_law_rounds" 1 ["_law_stage"] [] (sp__law_rounds) := mkG F12 (ok__law_rounds (cl := clT K) T F12) (He.glo_ok X G (c.fat (List.mem_of_getElem? (i := 70) rfl))) (bnN (F12.bindsN fun _ _ _ _ _ _ us hl => match us, hl with | [_], _ => rfl))
  have G__law_moved : GDef P w K mg base "_law_moved" 1 ["_law_row_here", "_law_move"] [] ((sp__law_moved K)) := mkG F13 (ok__law_moved (cl := clT K) T F13) (He.glo_ok X G (c.fat (List.mem_of_getElem? (i := 71) rfl))) (bnN (F13.bindsN fun _ _ _ _ _ _ us hl => match us, hl with | [_, _], _ => rfl))
  have G__law_is_int : GDef P w K mg base "_law_is_int" 1 ["_law_thing"] [] ((sp__law_is_int K)) := mkG F14 (ok__law_is_int (cl := clT K) T F14) (He.glo_ok X G (c.fat (List.mem_of_getElem? (i := 72) rfl))) (bnN (F14.bindsN fun _ _ _ _ _ _ us hl => match us, hl with | [_], _ => rfl))
  have G__law_draw : GDef P w K mg base "_law_draw" 1 ["_law_script"] [] ((sp__law_draw K)) := mkG F15 (ok__law_draw (cl := clT K) T F15) (He.glo_ok X G (c.fat (List.mem_of_getElem? (i := 73) rfl))) (bnN (F15.bindsN fun _ _ _ _ _ _ us hl => match us, hl with | [_], _ => rfl))
  have G__law_mix : GDef P w K mg base "_law_mix" 1 ["_law_cell", "_law_turn"] [] (sp__law_mix) := mkG F16 (ok__law_mix (cl := clT K) T F16) (He.glo_ok X G (c.fat (List.mem_of_getElem? (i := 74) rfl))) (bnN (F16.bindsN fun _ _ _ _ _ _ us hl => match us, hl with | [_, _], _ => rfl))
  have G__law_pick : GDef P w K mg base "_law_pick" 2 ["_law_draw_here", "_law_many"] [] ((sp__law_pick K)) := mkG F17 (ok__law_pick (cl := clT K) T F17 G__law_mix) (He.glo_ok X G (c.fat (List.mem_of_getElem? (i := 75) rfl))) (bnN (F17.bindsN fun _ _ _ _ _ _ us hl => match us, hl with | [_, _], _ => rfl))
  have G__law_change_move : GDef P w K mg base "_law_change_move" 1 ["_law_change_here", "_law_stage"] [] ((sp__law_change_move K)) := mkG F18 (ok__law_change_move (cl := clT K) T F18) (He.glo_ok X G (c.fat (List.mem_of_getElem? (i := 76) rfl))) (bnN (F18.bindsN fun _ _ _ _ _ _ us hl => match us, hl with | [_, _], _ => rfl))
  have G__law_change : GDef P w K mg base "_law_change" 3 ["_law_draw_here", "_law_stage"] [] ((sp__law_change K)) := mkG F19 (ok__law_change (cl := clT K) T F19 G__law_pick) (He.glo_ok X G (c.fat (List.mem_of_getElem? (i := 77) rfl))) (bnN (F19.bindsN fun _ _ _ _ _ _ us hl => match us, hl with | [_, _], _ => rfl))
  have G__law_led_change : GDef P w K mg base "_law_led_change" 3 ["_law_draw_here", "_law_stage", "_law_low"] [] ((sp__law_led_change K)) := mkG F20 (ok__law_led_change (cl := clT K) T F20 G__law_pick) (He.glo_ok X G (c.fat (List.mem_of_getElem? (i := 78) rfl))) (bnN (F20.bindsN fun _ _ _ _ _ _ us hl => match us, hl with | [_, _, _], _ => rfl))
  have G__law_kept_last : GDef P w K mg base "_law_kept_last" 4 ["_law_draw_here", "_law_stage"] [] ((sp__law_kept_last K)) := mkG F21 (ok__law_kept_last (cl := clT K) T F21 G__law_led_change) (He.glo_ok X G (c.fat (List.mem_of_getElem? (i := 79) rfl))) (bnN (F21.bindsN fun _ _ _ _ _ _ us hl => match us, hl with | [_, _], _ => rfl))
  have G__law_row : GDef P w K mg base "_law_row" 3 ["_law_draw_here", "_law_stage"] [] ((sp__law_row K)) := mkG F22 (ok__law_row (cl := clT K) T F22 G__law_pick) (He.glo_ok X G (c.fat (List.mem_of_getElem? (i := 80) rfl))) (bnN (F22.bindsN fun _ _ _ _ _ _ us hl => match us, hl with | [_, _], _ => rfl))
  have G__law_letter : GDef P w K mg base "_law_letter" 3 ["_law_draw_here", "_law_used"] [] ((sp__law_letter K)) := mkG F23 (ok__law_letter (cl := clT K) T F23 G__law_pick) (He.glo_ok X G (c.fat (List.mem_of_getElem? (i := 81) rfl))) (bnN (F23.bindsN fun _ _ _ _ _ _ us hl => match us, hl with | [_, _], _ => rfl))
  have G__law_hunting : GDef P w K mg base "_law_hunting" 5 ["_law_draw_here", "_law_stage"] [] ((sp__law_hunting K)) := mkG F24 (ok__law_hunting (cl := clT K) T F24 G__law_led_change G__law_kept_last) (He.glo_ok X G (c.fat (List.mem_of_getElem? (i := 82) rfl))) (bnN (F24.bindsN fun _ _ _ _ _ _ us hl => match us, hl with | [_, _], _ => rfl))
  have G__law_wide_world : GDef P w K mg base "_law_wide_world" 4 ["_law_draw_here"] [] ((sp__law_wide_world K)) := mkG F25 (ok__law_wide_world (cl := clT K) T F25 G__law_pick G__law_change G__law_letter) (He.glo_ok X G (c.fat (List.mem_of_getElem? (i := 83) rfl))) (bnN (F25.bindsN fun _ _ _ _ _ _ us hl => match us, hl with | [_], _ => rfl))
  have G__law_world : GDef P w K mg base "_law_world" 6 ["_law_draw_here", "_law_least"] [] ((sp__law_world K)) := mkG F26 (ok__law_world (cl := clT K) T F26 G__law_pick G__law_hunting G__law_change G__law_letter G__law_led_change) (He.glo_ok X G (c.fat (List.mem_of_getElem? (i := 84) rfl))) (bnN (F26.bindsN fun _ _ _ _ _ _ us hl => match us, hl with | [_, _], _ => rfl))
  have G__law_letters : GDef P w K mg base "_law_letters" 1 ["_law_world_here"] [] ((sp__law_letters K)) := mkG F27 (ok__law_letters (cl := clT K) T F27) (He.glo_ok X G (c.fat (List.mem_of_getElem? (i := 85) rfl))) (bnN (F27.bindsN fun _ _ _ _ _ _ us hl => match us, hl with | [_], _ => rfl))
  have G__law_lead_of : GDef P w K mg base "_law_lead_of" 1 ["_law_world_here", "_law_letter_here"] [] ((sp__law_lead_of K)) := mkG F28 (ok__law_lead_of (cl := clT K) T F28) (He.glo_ok X G (c.fat (List.mem_of_getElem? (i := 86) rfl))) (bnN (F28.bindsN fun _ _ _ _ _ _ us hl => match us, hl with | [_, _], _ => rfl))
  have G__law_body_of : GDef P w K mg base "_law_body_of" 2 ["_law_world_here", "_law_letter_here"] [] ((sp__law_body_of K)) := mkG F29 (ok__law_body_of (cl := clT K) T F29 G__law_rounds G__law_lead_of G__law_moved G__law_change_move) (He.glo_ok X G (c.fat (List.mem_of_getElem? (i := 87) rfl))) (bnN (F29.bindsN fun _ _ _ _ _ _ us hl => match us, hl with | [_, _], _ => rfl))
  have G__law_moves : GDef P w K mg base "_law_moves" 3 ["_law_world_here"] [] ((sp__law_moves K)) := mkG F30 (ok__law_moves (cl := clT K) T F30 G__law_letters G__law_body_of) (He.glo_ok X G (c.fat (List.mem_of_getElem? (i := 88) rfl))) (bnN (F30.bindsN fun _ _ _ _ _ _ us hl => match us, hl with | [_], _ => rfl))
  have G__law_heads : GDef P w K mg base "_law_heads" 2 ["_law_stage", "_law_moves_here", "_law_most"] [] ((sp__law_heads K)) := mkG F31 (ok__law_heads (cl := clT K) T F31 G__law_rounds G__law_moved) (He.glo_ok X G (c.fat (List.mem_of_getElem? (i := 89) rfl))) (bnN (F31.bindsN fun _ _ _ _ _ _ us hl => match us, hl with | [_, _, _], _ => rfl))
  have G__law_rich_world : GDef P w K mg base "_law_rich_world" 7 ["_law_draw_here", "_law_least"] [] ((sp__law_rich_world K)) := mkG F32 (ok__law_rich_world (cl := clT K) T F32 G__law_world G__law_heads G__law_moves G__law_pick) (He.glo_ok X G (c.fat (List.mem_of_getElem? (i := 90) rfl))) (bnN (F32.bindsN fun _ _ _ _ _ _ us hl => match us, hl with | [_, _], _ => rfl))
  have G__law_table : GDef P w K mg base "_law_table" 3 ["_law_draw_here", "_law_stage", "_law_letters_here", "_law_many"] [] ((sp__law_table K)) := mkG F33 (ok__law_table (cl := clT K) T F33 G__law_pick) (He.glo_ok X G (c.fat (List.mem_of_getElem? (i := 91) rfl))) (bnN (F33.bindsN fun _ _ _ _ _ _ us hl => match us, hl with | [_, _, _, _], _ => rfl))
  have G__law_wheel : GDef P w K mg base "_law_wheel" 3 ["_law_draw_here", "_law_stage", "_law_letters_here", "_law_moves_here", "_law_many"] [] ((sp__law_wheel K)) := mkG F34 (ok__law_wheel (cl := clT K) T F34 G__law_pick) (He.glo_ok X G (c.fat (List.mem_of_getElem? (i := 92) rfl))) (bnN (F34.bindsN fun _ _ _ _ _ _ us hl => match us, hl with | [_, _, _, _, _], _ => rfl))
  have G__law_any_table : GDef P w K mg base "_law_any_table" 4 ["_law_draw_here", "_law_stage", "_law_letters_here", "_law_moves_here"] [] ((sp__law_any_table K)) := mkG F35 (ok__law_any_table (cl := clT K) T F35 G__law_pick G__law_wheel G__law_table) (He.glo_ok X G (c.fat (List.mem_of_getElem? (i := 93) rfl))) (bnN (F35.bindsN fun _ _ _ _ _ _ us hl => match us, hl with | [_, _, _, _], _ => rfl))
  have G__law_walk : GDef P w K mg base "_law_walk" 2 ["_law_moves_here", "_law_bell", "_law_table_here", "_law_home"] [] ((sp__law_walk K)) := mkG F36 (ok__law_walk (cl := clT K) T F36 G__law_moved) (He.glo_ok X G (c.fat (List.mem_of_getElem? (i := 94) rfl))) (bnN (F36.bindsN fun _ _ _ _ _ _ us hl => match us, hl with | [_, _, _, _], _ => rfl))
  have G_sameR : ∀ n, GDef P w K mg base "_law_same" (n + 2) ["_law_told", "_law_due"] [] (sp__law_same K n) := fun n => by
    induction n with
    | zero => exact mkG F37 (ok_same0 (cl := clT K) T F37 G__law_is_int) (He.glo_ok X G (c.fat (List.mem_of_getElem? (i := 95) rfl))) (bnN (F37.bindsN fun _ _ _ _ _ _ us hl => match us, hl with | [_, _], _ => rfl))
    | succ n ih => exact mkG F37 (ok__law_same (cl := clT K) T F37 G__law_is_int ih) (He.glo_ok X G (c.fat (List.mem_of_getElem? (i := 95) rfl))) (bnN (F37.bindsN fun _ _ _ _ _ _ us hl => match us, hl with | [_, _], _ => rfl))
  have G__law_same : GDef P w K mg base "_law_same" 10 ["_law_told", "_law_due"] [] (sp__law_same K 8) := G_sameR 8
  have G_are_changes : GDef P w K mg base "are_changes" 4 ["thing", "stage"] [] ((sp_are_changes K)) := mkG F38 (ok_are_changes (cl := clT K) T F38 G_is_sound_change) (He.glo_ok X G (c.fat (List.mem_of_getElem? (i := 96) rfl))) (bnN (F38.bindsN fun _ _ _ _ _ _ us hl => match us, hl with | [_, _], _ => rfl))
  have G_check_plain : GDef P w K mg base "check_plain" 4 ["plain", "stage"] [] ((sp_check_plain K)) := mkG F39 (ok_check_plain (cl := clT K) T F39 G_is_sound_change) (He.glo_ok X G (c.fat (List.mem_of_getElem? (i := 97) rfl))) (bnN (F39.bindsN fun _ _ _ _ _ _ us hl => match us, hl with | [_, _], _ => rfl))
  have G_is_call : GDef P w K mg base "is_call" 5 ["thing", "stage", "size"] [] ((sp_is_call K)) := mkG F40 (ok_is_call (cl := clT K) T F40 G_is_letter G_is_integer G_are_changes) (He.glo_ok X G (c.fat (List.mem_of_getElem? (i := 98) rfl))) (bnN (F40.bindsN fun _ _ _ _ _ _ us hl => match us, hl with | [_, _, _], _ => rfl))
  have G_check_calls : GDef P w K mg base "check_calls" 6 ["calls", "stage", "size"] [] ((sp_check_calls K)) := mkG F41 (ok_check_calls (cl := clT K) T F41 G_is_call) (He.glo_ok X G (c.fat (List.mem_of_getElem? (i := 99) rfl))) (bnN (F41.bindsN fun _ _ _ _ _ _ us hl => match us, hl with | [_, _, _], _ => rfl))
  have G_rows_through : GDef P w K mg base "rows_through" 2 ["stage", "lead"] [] ((sp_rows_through K)) := mkG F42 (ok_rows_through (cl := clT K) T F42 G_first_row G_times G_change_move) (He.glo_ok X G (c.fat (List.mem_of_getElem? (i := 100) rfl))) (bnN (F42.bindsN fun _ _ _ _ _ _ us hl => match us, hl with | [_, _], _ => rfl))
  have S_Method_contains : SDef P w K mg base (clT K).M "__contains__" 1 ["self", "letter"] ((sp_Method_contains K (clT K))) := mkS (ok_Method_contains (cl := clT K) T F43) hxMethod_contains (F43.bindsN fun _ _ _ _ _ _ us hl => match us, hl with | [_, _], _ => rfl)
  have S_Method_eq : SDef P w K mg base (clT K).M "__eq__" 1 ["self", "other"] ((sp_Method_eq K (clT K))) := mkS (ok_Method_eq (cl := clT K) T F44) hxMethod_eq (F44.bindsN fun _ _ _ _ _ _ us hl => match us, hl with | [_, _], _ => rfl)
  have C_Method : CDef P w K mg base "Method" (clT K).M 10 ["self", "stage", "plain", "calls"] [] ((sp_Method_init K (clT K))) := mkC (ok_Method_init (cl := clT K) T F45 G_is_integer G_deep G_check_plain G_check_calls G_first_row G_rows_through) (He.glo_ok X G (c.fat (List.mem_of_getElem? (i := 19) rfl))) (He.mkr_ok (c.fat (List.mem_of_getElem? (i := 101) rfl))) (bnN (bnI F45 4 (List.cons_ne_nil _ _) rfl fun _ _ _ _ _ _ _ us its e1 e2 => match us, e1, its, e2 with | [_, _, _, _], _, [_], _ => ⟨_, rfl, rfl⟩))
  have G_check_calling : GDef P w K mg base "check_calling" 1 ["method", "calling"] [] ((sp_check_calling K (clT K))) := mkG F46 (ok_check_calling (cl := clT K) T F46) (He.glo_ok X G (c.fat (List.mem_of_getElem? (i := 102) rfl))) (bnN (F46.bindsN fun _ _ _ _ _ _ us hl => match us, hl with | [_, _], _ => rfl))
  have G_told_row : GDef P w K mg base "told_row" 3 ["thing", "stage"] [] ((sp_told_row K)) := mkG F47 (ok_told_row (cl := clT K) T F47 G_flat G_is_sound_row) (He.glo_ok X G (c.fat (List.mem_of_getElem? (i := 103) rfl))) (bnN (F47.bindsN fun _ _ _ _ _ _ us hl => match us, hl with | [_, _], _ => rfl))
  have G_are_wants : GDef P w K mg base "are_wants" 4 ["thing", "stage"] [] ((sp_are_wants K)) := mkG F48 (ok_are_wants (cl := clT K) T F48 G_is_integer G_is_places) (He.glo_ok X G (c.fat (List.mem_of_getElem? (i := 104) rfl))) (bnN (F48.bindsN fun _ _ _ _ _ _ us hl => match us, hl with | [_, _], _ => rfl))
  have G_is_entry : GDef P w K mg base "is_entry" 5 ["thing", "method"] [] ((sp_is_entry K (clT K))) := mkG F49 (ok_is_entry (cl := clT K) T F49 G_is_integer G_are_wants) (He.glo_ok X G (c.fat (List.mem_of_getElem? (i := 105) rfl))) (bnN (F49.bindsN fun _ _ _ _ _ _ us hl => match us, hl with | [_, _], _ => rfl))
  have G_check_entries : GDef P w K mg base "check_entries" 6 ["method", "entries"] [] ((sp_check_entries K (clT K))) := mkG F50 (ok_check_entries (cl := clT K) T F50 G_is_entry) (He.glo_ok X G (c.fat (List.mem_of_getElem? (i := 106) rfl))) (bnN (F50.bindsN fun _ _ _ _ _ _ us hl => match us, hl with | [_, _], _ => rfl))
  have G_is_standing : GDef P w K mg base "is_standing" 3 ["thing", "stage"] [] ((sp_is_standing K)) := mkG F51 (ok_is_standing (cl := clT K) T F51 G_is_integer G_is_sound_row) (He.glo_ok X G (c.fat (List.mem_of_getElem? (i := 107) rfl))) (bnN (F51.bindsN fun _ _ _ _ _ _ us hl => match us, hl with | [_, _], _ => rfl))
  have G_told_standing : GDef P w K mg base "told_standing" 10 ["thing", "stage"] [] ((sp_told_standing K)) := mkG F52 (ok_told_standing (cl := clT K) T F52 G_deep G_is_standing) (He.glo_ok X G (c.fat (List.mem_of_getElem? (i := 108) rfl))) (bnN (F52.bindsN fun _ _ _ _ _ _ us hl => match us, hl with | [_, _], _ => rfl))
  have G_applies : GDef P w K mg base "applies" 1 ["entry", "row"] [] ((sp_applies K)) := mkG F53 (ok_applies (cl := clT K) T F53) (He.glo_ok X G (c.fat (List.mem_of_getElem? (i := 109) rfl))) (bnN (F53.bindsN fun _ _ _ _ _ _ us hl => match us, hl with | [_, _], _ => rfl))
  have C_Book : CDef P w K mg base "Book" (clT K).B 10 ["self", "method", "entries"] [] ((sp_Book_init K (clT K))) := mkC (ok_Book_init (cl := clT K) T F54 G_deep G_check_entries) (He.glo_ok X G (c.fat (List.mem_of_getElem? (i := 21) rfl))) (He.mkr_ok (c.fat (List.mem_of_getElem? (i := 110) rfl))) (bnN (bnI F54 3 (List.cons_ne_nil _ _) rfl fun _ _ _ _ _ _ _ us its e1 e2 => match us, e1, its, e2 with | [_, _, _], _, [_], _ => ⟨_, rfl, rfl⟩))
  have P_Book_beginning : PDef P w K mg base (clT K).B "beginning" 1 ((sp_Book_beginning K (clT K))) := mkP (ok_Book_beginning (cl := clT K) T F55) (He.cls_ok (c.fat (List.mem_of_getElem? (i := 22) rfl))) (prB_ok hxBook_beginning) (F55.bindsN fun _ _ _ _ _ _ us hl => match us, hl with | [_], _ => rfl)
  have S_Book_len : SDef P w K mg base (clT K).B "__len__" 1 ["self"] ((sp_Book_len K (clT K))) := mkS (ok_Book_len (cl := clT K) T F56) hxBook_len (F56.bindsN fun _ _ _ _ _ _ us hl => match us, hl with | [_], _ => rfl)
  have M_Book_ways_from : MDef P w K mg base (clT K).B "ways_from" 2 ["self", "standing"] [] ((sp_Book_ways_from K (clT K))) := mkM (ok_Book_ways_from (cl := clT K) T F57 G_applies G_times) (He.cls_ok (c.fat (List.mem_of_getElem? (i := 22) rfl))) (He.meth_ok (c.fat (List.mem_of_getElem? (i := 111) rfl))) (bnN (F57.bindsN fun _ _ _ _ _ _ us hl => match us, hl with | [_, _], _ => rfl))
  have M_Book_followers : MDef P w K mg base (clT K).B "followers" 11 ["self", "standing"] [] ((sp_Book_followers K (clT K))) := mkM (ok_Book_followers (cl := clT K) T F58 M_Book_ways_from G_told_standing) (He.cls_ok (c.fat (List.mem_of_getElem? (i := 22) rfl))) (He.meth_ok (c.fat (List.mem_of_getElem? (i := 112) rfl))) (bnN (F58.bindsN fun _ _ _ _ _ _ us hl => match us, hl with | [_, _], _ => rfl))
  have M_Book_is_stuck : MDef P w K mg base (clT K).B "is_stuck" 11 ["self", "standing"] [] ((sp_Book_is_stuck K (clT K))) := mkM (ok_Book_is_stuck (cl := clT K) T F59 G_told_standing M_Book_ways_from) (He.cls_ok (c.fat (List.mem_of_getElem? (i := 22) rfl))) (He.meth_ok (c.fat (List.mem_of_getElem? (i := 113) rfl))) (bnN (F59.bindsN fun _ _ _ _ _ _ us hl => match us, hl with | [_, _], _ => rfl))
  have G_is_table_row : GDef P w K mg base "is_table_row" 2 ["thing", "method", "many"] [] ((sp_is_table_row K (clT K))) := mkG F60 (ok_is_table_row (cl := clT K) T F60 S_Method_contains G_is_integer) (He.glo_ok X G (c.fat (List.mem_of_getElem? (i := 114) rfl))) (bnN (F60.bindsN fun _ _ _ _ _ _ us hl => match us, hl with | [_, _, _], _ => rfl))
  have G_told_table : GDef P w K mg base "told_table" 10 ["method", "table"] [] ((sp_told_table K (clT K))) := mkG F61 (ok_told_table (cl := clT K) T F61 G_deep G_is_table_row) (He.glo_ok X G (c.fat (List.mem_of_getElem? (i := 115) rfl))) (bnN (F61.bindsN fun _ _ _ _ _ _ us hl => match us, hl with | [_, _], _ => rfl))
  have C_Conductor : CDef P w K mg base "Conductor" (clT K).C 11 ["self", "method", "bell", "table"] [] ((sp_Conductor_init K (clT K))) := mkC (ok_Conductor_init (cl := clT K) T F62 G_is_integer G_told_table) (He.glo_ok X G (c.fat (List.mem_of_getElem? (i := 23) rfl))) (He.mkr_ok (c.fat (List.mem_of_getElem? (i := 116) rfl))) (bnN (F62.bindsN fun _ _ _ _ _ _ us hl => match us, hl with | [_, _, _, _], _ => rfl))
  have M_Conductor_goes_on : MDef P w K mg base (clT K).C "goes_on" 2 ["self", "memory", "row"] [] ((sp_Conductor_goes_on K (clT K))) := mkM (ok_Conductor_goes_on (cl := clT K) T F63 G_place_in G_times) (He.cls_ok (c.fat (List.mem_of_getElem? (i := 24) rfl))) (He.meth_ok (c.fat (List.mem_of_getElem? (i := 117) rfl))) (bnN (F63.bindsN fun _ _ _ _ _ _ us hl => match us, hl with | [_, _, _], _ => rfl))
  have S_Conductor_call : SDef P w K mg base (clT K).C "__call__" 4 ["self", "memory", "row"] ((sp_Conductor_call K (clT K))) := mkS (ok_Conductor_call (cl := clT K) T F64 G_is_integer G_told_row G_place_in) hxConductor_call (F64.bindsN fun _ _ _ _ _ _ us hl => match us, hl with | [_, _, _], _ => rfl)
  have M_Conductor_outcome : MDef P w K mg base (clT K).C "outcome" 4 ["self", "start"] [.non] ((sp_Conductor_outcome K (clT K))) := mkM (ok_Conductor_outcome (cl := clT K) T F65 G_told_row M_Conductor_goes_on) (He.cls_ok (c.fat (List.mem_of_getElem? (i := 24) rfl))) (He.meth_ok (c.fat (List.mem_of_getElem? (i := 118) rfl))) (FunD.binds1 F65 1 0 (List.cons_ne_nil _ _) rfl fun _ _ _ _ _ _ _ us its e1 e2 => match us, e1, its, e2 with | [_], _, [_], _ => ⟨_, rfl, rfl⟩)
  have M_Conductor_as_book : MDef P w K mg base (clT K).C "as_book" 12 ["self"] [] ((sp_Conductor_as_book K (clT K))) := mkM (ok_Conductor_as_book (cl := clT K) T F66 C_Book) (He.cls_ok (c.fat (List.mem_of_getElem? (i := 24) rfl))) (He.meth_ok (c.fat (List.mem_of_getElem? (i := 119) rfl))) (bnN (F66.bindsN fun _ _ _ _ _ _ us hl => match us, hl with | [_], _ => rfl))
  have M_Book_fan : MDef P w K mg base (clT K).B "fan" 3 ["self", "row", "states"] [] ((sp_Book_fan K (clT K))) := mkM (ok_Book_fan (cl := clT K) T F67 M_Book_ways_from) (He.cls_ok (c.fat (List.mem_of_getElem? (i := 22) rfl))) (He.meth_ok (c.fat (List.mem_of_getElem? (i := 120) rfl))) (bnN (F67.bindsN fun _ _ _ _ _ _ us hl => match us, hl with | [_, _, _], _ => rfl))
  have M_Book_bears : MDef P w K mg base (clT K).B "bears" 4 ["self", "calling"] [] ((sp_Book_bears K (clT K))) := mkM (ok_Book_bears (cl := clT K) T F68 G_check_calling M_Book_fan) (He.cls_ok (c.fat (List.mem_of_getElem? (i := 22) rfl))) (He.meth_ok (c.fat (List.mem_of_getElem? (i := 121) rfl))) (bnN (F68.bindsN fun _ _ _ _ _ _ us hl => match us, hl with | [_, _], _ => rfl))
  have C_Outlook : CDef P w K mg base "Outlook" (clT K).O 3 ["self", "book"] [] ((sp_Outlook_init P w K (clT K))) := mkC (ok_Outlook_init (cl := clT K) T F69 P_Book_beginning M_Book_ways_from) (He.glo_ok X G (c.fat (List.mem_of_getElem? (i := 25) rfl))) (He.mkr_ok (c.fat (List.mem_of_getElem? (i := 122) rfl))) (bnN (F69.bindsN fun _ _ _ _ _ _ us hl => match us, hl with | [_, _], _ => rfl))
  have P_Outlook_stuck : PDef P w K mg base (clT K).O "stuck" 1 ((sp_Outlook_stuck P w K (clT K))) := mkP (ok_Outlook_stuck (cl := clT K) T F70) (He.cls_ok (c.fat (List.mem_of_getElem? (i := 26) rfl))) (prB_ok hxOutlook_stuck) (F70.bindsN fun _ _ _ _ _ _ us hl => match us, hl with | [_], _ => rfl)
  have G_ranks_of : GDef P w K mg base "ranks_of" 1 ["outlook"] [] ((sp_ranks_of P w K (clT K))) := mkG F71 (ok_ranks_of (cl := clT K) T F71) (He.glo_ok X G (c.fat (List.mem_of_getElem? (i := 123) rfl))) (bnN (F71.bindsN fun _ _ _ _ _ _ us hl => match us, hl with | [_], _ => rfl))
  have G_least_loop : GDef P w K mg base "least_loop" 1 ["outlook", "start"] [] ((sp_least_loop P w K (clT K))) := mkG F72 (ok_least_loop (cl := clT K) T F72) (He.glo_ok X G (c.fat (List.mem_of_getElem? (i := 124) rfl))) (bnN (F72.bindsN fun _ _ _ _ _ _ us hl => match us, hl with | [_, _], _ => rfl))
  have G_breach_of : GDef P w K mg base "breach_of" 3 ["outlook", "ranks"] [] ((sp_breach_of P w K (clT K))) := mkG F73 (ok_breach_of (cl := clT K) T F73 P_Outlook_stuck G_least_loop) (He.glo_ok X G (c.fat (List.mem_of_getElem? (i := 125) rfl))) (bnN (F73.bindsN fun _ _ _ _ _ _ us hl => match us, hl with | [_, _], _ => rfl))
  have C_RoundVerdict : CDef P w K mg base "RoundVerdict" (clT K).V 5 ["self", "book"] [] ((sp_RoundVerdict_init K (clT K))) := mkC (ok_RoundVerdict_init (cl := clT K) T F74 C_Outlook G_ranks_of G_breach_of) (He.glo_ok X G (c.fat (List.mem_of_getElem? (i := 27) rfl))) (He.mkr_ok (c.fat (List.mem_of_getElem? (i := 126) rfl))) (bnN (F74.bindsN fun _ _ _ _ _ _ us hl => match us, hl with | [_, _], _ => rfl))
  have S_RoundVerdict_bool : SDef P w K mg base (clT K).V "__bool__" 1 ["self"] ((sp_RoundVerdict_bool (clT K))) := mkS (ok_RoundVerdict_bool (cl := clT K) T F75) hxRoundVerdict_bool (F75.bindsN fun _ _ _ _ _ _ us hl => match us, hl with | [_], _ => rfl)
  have G_is_ranked : GDef P w K mg base "is_ranked" 4 ["thing", "stage"] [] ((sp_is_ranked K)) := mkG F76 (ok_is_ranked (cl := clT K) T F76 G_is_standing G_is_integer) (He.glo_ok X G (c.fat (List.mem_of_getElem? (i := 127) rfl))) (bnN (F76.bindsN fun _ _ _ _ _ _ us hl => match us, hl with | [_, _], _ => rfl))
  have G_is_right_rank : GDef P w K mg base "is_right_rank" 3 ["book", "pair", "ranks"] [] ((sp_is_right_rank P w K (clT K))) := mkG F77 (ok_is_right_rank (cl := clT K) T F77 M_Book_ways_from) (He.glo_ok X G (c.fat (List.mem_of_getElem? (i := 128) rfl))) (bnN (F77.bindsN fun _ _ _ _ _ _ us hl => match us, hl with | [_, _, _], _ => rfl))
  have G_judge_round : GDef P w K mg base "judge_round" 10 ["book", "table"] [] ((sp_judge_round K (clT K))) := mkG F78 (ok_judge_round (cl := clT K) T F78 G_deep G_is_ranked P_Book_beginning G_is_right_rank) (He.glo_ok X G (c.fat (List.mem_of_getElem? (i := 129) rfl))) (bnN (F78.bindsN fun _ _ _ _ _ _ us hl => match us, hl with | [_, _], _ => rfl))
  have C_Touch : CDef P w K mg base "Touch" (clT K).U 4 ["self", "method", "calling", "start"] [.non] ((sp_Touch_init K (clT K))) := mkC (ok_Touch_init (cl := clT K) T F79 G_check_calling G_told_row G_times) (He.glo_ok X G (c.fat (List.mem_of_getElem? (i := 29) rfl))) (He.mkr_ok (c.fat (List.mem_of_getElem? (i := 130) rfl))) (FunD.binds1 F79 3 0 (List.cons_ne_nil _ _) rfl fun _ _ _ _ _ _ _ us its e1 e2 => match us, e1, its, e2 with | [_, _, _], _, [_], _ => ⟨_, rfl, rfl⟩)
  have P_Touch_is_round : PDef P w K mg base (clT K).U "is_round" 1 ((sp_Touch_is_round K (clT K))) := mkP (ok_Touch_is_round (cl := clT K) T F80) (He.cls_ok (c.fat (List.mem_of_getElem? (i := 30) rfl))) (prB_ok hxTouch_is_round) (F80.bindsN fun _ _ _ _ _ _ us hl => match us, hl with | [_], _ => rfl)
  have G__law_leads_on : GDef P w K mg base "_law_leads_on" 12 ["_law_book", "_law_conductor", "_law_moves_here", "_law_bell", "_law_table_here", "_law_home", "_law_pair"] [] ((sp__law_leads_on K (clT K))) := mkG F81 (ok__law_leads_on (cl := clT K) T F81 G__law_same S_Conductor_call G__law_moved M_Book_followers M_Book_is_stuck) (He.glo_ok X G (c.fat (List.mem_of_getElem? (i := 131) rfl))) (bnN (F81.bindsN fun _ _ _ _ _ _ us hl => match us, hl with | [_, _, _, _, _, _, _], _ => rfl))
  have G__law_bears : GDef P w K mg base "_law_bears" 5 ["_law_draw_here", "_law_book", "_law_letters_here", "_law_called", "_law_at"] [] ((sp__law_bears K (clT K))) := mkG F82 (ok__law_bears (cl := clT K) T F82 G__law_pick M_Book_bears) (He.glo_ok X G (c.fat (List.mem_of_getElem? (i := 132) rfl))) (bnN (F82.bindsN fun _ _ _ _ _ _ us hl => match us, hl with | [_, _, _, _, _], _ => rfl))
  have G__law_is_his : GDef P w K mg base "_law_is_his" 13 ["_law_draw_here", "_law_method", "_law_conductor", "_law_letters_here", "_law_moves_here", "_law_bell", "_law_table_here", "_law_home"] [] ((sp__law_is_his K (clT K))) := mkG F83 (ok__law_is_his (cl := clT K) T F83 M_Conductor_as_book G__law_walk C_RoundVerdict M_Conductor_outcome S_Method_eq S_Book_len S_RoundVerdict_bool G__law_same G_judge_round P_Touch_is_round C_Touch G__law_pick G__law_row G__law_leads_on M_Book_followers G__law_bears) (He.glo_ok X G (c.fat (List.mem_of_getElem? (i := 133) rfl))) (bnN (F83.bindsN fun _ _ _ _ _ _ us hl => match us, hl with | [_, _, _, _, _, _, _, _], _ => rfl))
  exact ok_law (cl := clT K) T F84 G__law_draw G__law_pick G__law_rich_world G__law_wide_world C_Method G__law_letters G__law_moves G__law_rounds G__law_any_table C_Conductor G__law_is_his
end
end L2
open PySem PySem.W PySem.Calls PyProof.Rows
theorem PySem.Challenge.cw_truetouch_k94_whole_conductor_book_holds : PySem.Challenge.rw_truetouch_k94_whole_conductor_book.Holds := by
  w_on; o_law
  refine HandSHeadRun.head_any (r := OpenLaw.row PySem.Challenge.rw_truetouch_k94_whole_conductor_book) (q := view (OpenLaw.row PySem.Challenge.rw_truetouch_k94_whole_conductor_book).prog [103]) (H := L2.hkT) (ob := L2.obT) (M := 20000) (loose := L2.loT) (d := HandSHeadRun.topDef (OpenLaw.row PySem.Challenge.rw_truetouch_k94_whole_conductor_book).prog 103) (kwd := []) L2.obT_eq
    (by kernel_rfl) (fun s => by kernel_rfl) L2.runT (by kernel_rfl) (by kernel_rfl) (by kernel_rfl) (by rfl) (by first | assumption | decide +kernel) (by decide +kernel) ⟨rfl, rfl, rfl, rfl, rfl, by decide +kernel⟩ ?hw ?hc
  case hw => w_witness2
  case hc =>
    refine L2.walk_ofE (l := PySem.Challenge.rw_truetouch_k94_whole_conductor_book) (n := 63) (k := 14) (x := "_law_script") (CX := L2.CX0) rfl (by decide) (by kernel_rfl) ⟨rfl, by decide, by decide⟩ ?F (fun _ _ _ _ z => z)
    intro w mg fa h Y G hmg
    obtain ⟨K, KX, c⟩ := Y
    have en : (HandSHeadRun.topDef (OpenLaw.row PySem.Challenge.rw_truetouch_k94_whole_conductor_book).prog 103).name = ("law" : PySem.Str) := by kernel_rfl
    rw [en] at hmg
    have e := hmg.symm.trans (He.glo_ok KX G (c.fat (List.mem_of_getElem? (i := 134) rfl)))
    cases e
    obtain ⟨fd, hb, hF⟩ := L2.lawT (P := (PySem.Challenge.rw_truetouch_k94_whole_conductor_book).prog) (w := w) KX G c
    exact ⟨K, fd, L2.sp_law K, KX, hb, fun H a ns hl _ hS => ⟨a, ns, rfl, hS, hl, fun _ => rfl⟩, fun base _ _ => hF base⟩
