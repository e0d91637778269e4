import PyProof.Rows.All
import Wide.All
import OpenK.AllK
import Wide.FinOn
import PyProof.EqAt
import PyProof.EqKinds
import PyProof.TupleCall
import KE.KMathGC
import KE.KDictKeyed
import KE.KDictLaw
import KE.KDictCopyH
import KE.KDictWalk
import KE.GoesSet
import KE.GoesDict
import KE.SortData
import KE.SortLaws
import KE.KStateDown
import HandS.ForMost
import HandS.Exc
import HandS.TryOnly
import HandS.ExcOwn
import HandS.ExcInit
import HandS.WordsExc
import HandS.Defaults
import HandS.Property
import HandS.Star
import HandS.Conv
import HandS.DictComp
import HandS.SetKeys
import HandS.TupSets
import HandS.TupAny
import HandS.TupLen
import HandS.Deep
import HandS.IsInst
import HandS.SortInts
import HandS.SortKw
import HandS.Gcd
import HandS.Wide
import HandS.CallSlots
import HandS.Ends
import HandS.Head0
import HandS.Head1
import HandS.Head2
import HandS.HeadEnd
import HandS.HeadHook1
import HandS.HeadHook2
import HandS.HeadHook4
import HandS.HeadWalk
import HandS.Head3
import HandS.Head4
import HandS.Walk
import HandS.SetBool
import HandS.MakeKwOnly
import PySem.Challenge.RW_jawturns_k92_whole_more_kinds_never_easi
set_option Elab.async false
set_option linter.all false
set_option maxRecDepth 100000
set_option maxHeartbeats 4000000
namespace L2.Jw
open PySem PySem.Spec PyProof.Rows
/-! the text by places: the statements of the top, the methods of the classes -/
def top (i : Nat) : Stmt := PySem.Challenge.pw_jawturns_k92_whole_more_kinds_never_easi.main.body.getD i (.Pass ⟨0, 0, 0, 0⟩)
abbrev inC (i j : Nat) : Stmt := inClass (top i) j
/-- a def of the text, where it stands -/
abbrev FnP (K : PySem.W.Frag) (x q : Str) (st : Stmt) (dv : List V) (kv : List (Str × V)) (f : Addr) (fd : FuncData) : Prop := FunD K x q (defArgs st) (defBody st) (defScope st) dv kv f fd
end L2.Jw
set_option Elab.async false
set_option linter.all false
set_option maxRecDepth 100000
set_option maxHeartbeats 0
namespace L2.Jw
open PySem PySem.Spec PyProof.Rows
/-! ## the head: the top is run, the facts are read off the heap -/
/-- a property of a class -/
structure PrD where
  cls : Str
  name : Str
  qual : Str
  st : Stmt
abbrev FnJ : Type := Option (Str × Str × Arguments × FuncBody × Scope × Addr × List (Str × Addr) × Addr)
def PrD.val (d : PrD) : FnJ := some (d.name, d.qual, defArgs d.st, .stmts (defBody d.st), defScope d.st, mainGlobals, [], builtinsNs)
/-- the property's own place, its getter's -/
def PrD.at_ (K : PySem.W.Frag) (d : PrD) : Addr := match PySem.W.findIn K (.ref (He.ga K d.cls)) d.name with
  | some (some (.ref p)) => p
  | _ => 0
def PrD.get (K : PySem.W.Frag) (d : PrD) : Addr := match PySem.W.recIn K (d.at_ K) "property" with
  | some (.ref g :: _) => g
  | _ => 0
def hasGet (K : PySem.W.Frag) (p : Addr) (g : Addr) : Bool := match PySem.W.recIn K p "property" with
  | some (.ref g' :: _) => decide (g' = g)
  | _ => false
def fnJ (K : PySem.W.Frag) (a : Addr) : FnJ := match K.lookup a with
  | some ⟨_, _, .func u, _⟩ => some (u.name, u.qualname, u.params, u.body, u.scope, u.globals, u.closure, u.builtins)
  | _ => none
def bareB (K : PySem.W.Frag) (a : Addr) (q : Str) : Bool := match K.lookup a with
  | some ⟨_, _, .func u, _⟩ => PySem.W.codeIn K u.code q && He.dflB K u.defaults []
  | _ => false
def PrD.ok (K : PySem.W.Frag) (d : PrD) : Bool := He.eqO (PySem.W.findIn K (.ref (He.ga K d.cls)) d.name) (some (some (.ref (d.at_ K)))) && (He.eqO (PySem.W.specialIn K (.ref (d.at_ K)) "__get__") (some (some (.builtin "property.__get__"))) &&
  (decide (PySem.W.takesIn K (.ref (d.at_ K)) = some true) && (hasGet K (d.at_ K) (d.get K) && (PySem.W.keepIn K (.ref (d.get K)) && bareB K (d.get K) d.qual))))
/-- an own exception class whose bases are classes of the text, behind them ValueError's -/
def oexB (K : PySem.W.Frag) (C : Addr) : Bool := (match K.lookup C with
  | some ⟨.type "type", _, .cls u, sl⟩ => (match u.mro, sl.toList with
    | .ref C' :: bm, [_, _, _, _, some (.builtin n), _] => decide (C' = C) && (decide (n = "ValueError.__new__") && (!u.hasDel && (u.hasDict && PySem.HandSPX.refsVE bm)))
    | _, _ => false)
  | _ => false) && (He.eqO (PySem.W.findIn K (.ref C) "__setattr__") (some (some (.builtin "object.__setattr__"))) && (decide (PySem.W.subIn K (.ref C) (.type "BaseException") = some true) && (decide (PySem.W.typeIn K (.ref C) = some (.type "type")) && PySem.W.keepIn K (.ref C))))
def hfa0 : List He.Fa := [.free "isinstance", .free "len", .free "enumerate", .free "tuple", .free "sorted", .free "range", .free "divmod", .free "list", .free "int", .free "bool"]
def hfa1 : List He.Fa := [.free "str", .free "dict", .free "any", .free "all", .free "set", .free "min", .free "max", .int "MOST_ROUND" 360, .int "MOST_ROWS_turnings" 12, .int "MOST_WIDTH" 1000000000000]
def hfa2 : List He.Fa := [.int "MOST_STATES" 5, .int "MOST_RULES" 40, .int "MOST_ROWS_walks" 600, .int "MOST_LOG" 40, .int "MOST_SQUEEZES" 12, .str "START" "start", .str "LETTERS" "abcdefghijklmnopqrstuvwxyz", .glo "WORDS", .glo "law", .glo "tell"]
def hfa3 : List He.Fa := [.glo "TooMany", .glo "is_integer", .glo "is_row", .glo "is_place", .glo "check_round", .glo "is_pair", .glo "checked_rows", .glo "rows_turned", .glo "least_period", .glo "is_word"]
def hfa4 : List He.Fa := [.glo "checked_widths", .glo "check_even", .glo "is_name", .glo "is_rule", .glo "checked_rules", .glo "check_kinds", .glo "check_shown", .glo "check_log", .glo "still_fitting", .glo "fitting"]
def hfa5 : List He.Fa := [.glo "fits", .glo "checked_jaws", .glo "_law_pool", .glo "_law_draw", .glo "_law_laps", .glo "_law_rows", .glo "_law_shown", .glo "_law_shown_part", .glo "_law_rules", .glo "_law_handed"]
def hfa6 : List He.Fa := [.glo "_law_worst", .glo "_law_tree", .glo "_law_more", .glo "_law_ways", .glo "Turning", .cls "Turning", .noat "Turning" "around", .noat "Turning" "rows", .noat "Turning" "_period", .mkr "Turning"]
def hfa7 : List He.Fa := [.glo "Part", .cls "Part", .noat "Part" "around", .noat "Part" "_shown", .noat "Part" "_turnings", .mkr "Part", .glo "Let", .cls "Let", .noat "Let" "around", .noat "Let" "_table"]
def hfa8 : List He.Fa := [.mkr "Let", .glo "Jaws", .cls "Jaws", .noat "Jaws" "ring", .noat "Jaws" "lands", .noat "Jaws" "gaps", .noat "Jaws" "spans", .mkr "Jaws", .glo "Game", .cls "Game"]
def hfa9 : List He.Fa := [.noat "Game" "jaws", .noat "Game" "let", .noat "Game" "strict", .noat "Game" "choices", .noat "Game" "worth", .noat "Game" "begins_told", .noat "Game" "opening", .mkr "Game", .meth "Turning" "lifted", .meth "Turning" "is_even"]
def hfa10 : List He.Fa := [.meth "Let" "rules", .meth "Jaws" "all_pairs", .meth "Jaws" "squeezed", .meth "Jaws" "parted", .meth "Jaws" "is_told", .meth "Game" "branches", .meth "Game" "collect", .meth "Game" "worst", .meth "Game" "weigh", .meth "Game" "least"]
def hfa11 : List He.Fa := [.meth "Game" "tree", .meth "Game" "number", .meth "Part" "__getitem__", .meth "Turning" "__call__", .meth "TooMany" "__init__", .noat "TooMany" "limit", .exm "TooMany" "TooMany" true]
def hfa : List He.Fa := hfa0 ++ (hfa1 ++ (hfa2 ++ (hfa3 ++ (hfa4 ++ (hfa5 ++ (hfa6 ++ (hfa7 ++ (hfa8 ++ (hfa9 ++ (hfa10 ++ hfa11))))))))))
def hfn0 : List He.DefD := [⟨("law", none), "law", "law", defArgs (top 76), defBody (top 76), defScope (top 76), [], []⟩, ⟨("tell", none), "tell", "tell", defArgs (top 57), defBody (top 57), defScope (top 57), [], [("most", .int 12), ("settled", .bl false)]⟩, ⟨("is_integer", none), "is_integer", "is_integer", defArgs (top 18), defBody (top 18), defScope (top 18), [], []⟩, ⟨("is_row", none), "is_row", "is_row", defArgs (top 19), defBody (top 19), defScope (top 19), [], []⟩, ⟨("is_place", none), "is_place", "is_place", defArgs (top 20), defBody (top 20), defScope (top 20), [], []⟩, ⟨("check_round", none), "check_round", "check_round", defArgs (top 21), defBody (top 21), defScope (top 21), [], []⟩, ⟨("is_pair", none), "is_pair", "is_pair", defArgs (top 22), defBody (top 22), defScope (top 22), [], []⟩, ⟨("checked_rows", none), "checked_rows", "checked_rows", defArgs (top 23), defBody (top 23), defScope (top 23), [], []⟩]
def hfn1 : List He.DefD := [⟨("rows_turned", none), "rows_turned", "rows_turned", defArgs (top 24), defBody (top 24), defScope (top 24), [], []⟩, ⟨("least_period", none), "least_period", "least_period", defArgs (top 25), defBody (top 25), defScope (top 25), [], []⟩, ⟨("is_word", none), "is_word", "is_word", defArgs (top 29), defBody (top 29), defScope (top 29), [], []⟩, ⟨("checked_widths", none), "checked_widths", "checked_widths", defArgs (top 30), defBody (top 30), defScope (top 30), [], []⟩, ⟨("check_even", none), "check_even", "check_even", defArgs (top 31), defBody (top 31), defScope (top 31), [], []⟩, ⟨("is_name", none), "is_name", "is_name", defArgs (top 39), defBody (top 39), defScope (top 39), [], []⟩, ⟨("is_rule", none), "is_rule", "is_rule", defArgs (top 40), defBody (top 40), defScope (top 40), [], []⟩, ⟨("checked_rules", none), "checked_rules", "checked_rules", defArgs (top 41), defBody (top 41), defScope (top 41), [], []⟩]
def hfn2 : List He.DefD := [⟨("check_kinds", none), "check_kinds", "check_kinds", defArgs (top 45), defBody (top 45), defScope (top 45), [], []⟩, ⟨("check_shown", none), "check_shown", "check_shown", defArgs (top 49), defBody (top 49), defScope (top 49), [], []⟩, ⟨("check_log", none), "check_log", "check_log", defArgs (top 51), defBody (top 51), defScope (top 51), [], []⟩, ⟨("still_fitting", none), "still_fitting", "still_fitting", defArgs (top 52), defBody (top 52), defScope (top 52), [], []⟩, ⟨("fitting", none), "fitting", "fitting", defArgs (top 53), defBody (top 53), defScope (top 53), [], []⟩, ⟨("fits", none), "fits", "fits", defArgs (top 54), defBody (top 54), defScope (top 54), [], []⟩, ⟨("checked_jaws", none), "checked_jaws", "checked_jaws", defArgs (top 55), defBody (top 55), defScope (top 55), [], []⟩, ⟨("_law_pool", none), "_law_pool", "_law_pool", defArgs (top 59), defBody (top 59), defScope (top 59), [], []⟩]
def hfn3 : List He.DefD := [⟨("_law_draw", none), "_law_draw", "_law_draw", defArgs (top 60), defBody (top 60), defScope (top 60), [], []⟩, ⟨("_law_laps", none), "_law_laps", "_law_laps", defArgs (top 61), defBody (top 61), defScope (top 61), [], []⟩, ⟨("_law_rows", none), "_law_rows", "_law_rows", defArgs (top 62), defBody (top 62), defScope (top 62), [], []⟩, ⟨("_law_shown", none), "_law_shown", "_law_shown", defArgs (top 66), defBody (top 66), defScope (top 66), [], []⟩, ⟨("_law_shown_part", none), "_law_shown_part", "_law_shown_part", defArgs (top 67), defBody (top 67), defScope (top 67), [], []⟩, ⟨("_law_rules", none), "_law_rules", "_law_rules", defArgs (top 69), defBody (top 69), defScope (top 69), [], []⟩, ⟨("_law_handed", none), "_law_handed", "_law_handed", defArgs (top 71), defBody (top 71), defScope (top 71), [], []⟩, ⟨("_law_worst", none), "_law_worst", "_law_worst", defArgs (top 72), defBody (top 72), defScope (top 72), [], []⟩]
def hfn4 : List He.DefD := [⟨("_law_tree", none), "_law_tree", "_law_tree", defArgs (top 73), defBody (top 73), defScope (top 73), [], []⟩, ⟨("_law_more", none), "_law_more", "_law_more", defArgs (top 74), defBody (top 74), defScope (top 74), [], []⟩, ⟨("_law_ways", none), "_law_ways", "_law_ways", defArgs (top 75), defBody (top 75), defScope (top 75), [], []⟩, ⟨("Turning", some "lifted"), "lifted", "Turning.lifted", defArgs (inC 26 5), defBody (inC 26 5), defScope (inC 26 5), [], []⟩, ⟨("Turning", some "is_even"), "is_even", "Turning.is_even", defArgs (inC 26 9), defBody (inC 26 9), defScope (inC 26 9), [], []⟩, ⟨("Let", some "rules"), "rules", "Let.rules", defArgs (inC 42 4), defBody (inC 42 4), defScope (inC 42 4), [], []⟩, ⟨("Jaws", some "all_pairs"), "all_pairs", "Jaws.all_pairs", defArgs (inC 50 1), defBody (inC 50 1), defScope (inC 50 1), [], []⟩, ⟨("Jaws", some "squeezed"), "squeezed", "Jaws.squeezed", defArgs (inC 50 2), defBody (inC 50 2), defScope (inC 50 2), [], []⟩]
def hfn5 : List He.DefD := [⟨("Jaws", some "parted"), "parted", "Jaws.parted", defArgs (inC 50 3), defBody (inC 50 3), defScope (inC 50 3), [], []⟩, ⟨("Jaws", some "is_told"), "is_told", "Jaws.is_told", defArgs (inC 50 4), defBody (inC 50 4), defScope (inC 50 4), [], []⟩, ⟨("Game", some "branches"), "branches", "Game.branches", defArgs (inC 56 1), defBody (inC 56 1), defScope (inC 56 1), [], []⟩, ⟨("Game", some "collect"), "collect", "Game.collect", defArgs (inC 56 2), defBody (inC 56 2), defScope (inC 56 2), [], []⟩, ⟨("Game", some "worst"), "worst", "Game.worst", defArgs (inC 56 3), defBody (inC 56 3), defScope (inC 56 3), [], []⟩, ⟨("Game", some "weigh"), "weigh", "Game.weigh", defArgs (inC 56 4), defBody (inC 56 4), defScope (inC 56 4), [], []⟩, ⟨("Game", some "least"), "least", "Game.least", defArgs (inC 56 5), defBody (inC 56 5), defScope (inC 56 5), [], []⟩, ⟨("Game", some "tree"), "tree", "Game.tree", defArgs (inC 56 6), defBody (inC 56 6), defScope (inC 56 6), [], []⟩]
def hfn6 : List He.DefD := [⟨("Game", some "number"), "number", "Game.number", defArgs (inC 56 7), defBody (inC 56 7), defScope (inC 56 7), [], []⟩, ⟨("Part", some "__getitem__"), "__getitem__", "Part.__getitem__", defArgs (inC 32 5), defBody (inC 32 5), defScope (inC 32 5), [], []⟩, ⟨("Turning", some "__call__"), "__call__", "Turning.__call__", defArgs (inC 26 6), defBody (inC 26 6), defScope (inC 26 6), [], []⟩, ⟨("TooMany", some "__init__"), "__init__", "TooMany.__init__", defArgs (inC 13 0), defBody (inC 13 0), defScope (inC 13 0), [], []⟩, ⟨("Turning", some "__init__"), "__init__", "Turning.__init__", defArgs (inC 26 0), defBody (inC 26 0), defScope (inC 26 0), [], []⟩, ⟨("Part", some "__init__"), "__init__", "Part.__init__", defArgs (inC 32 0), defBody (inC 32 0), defScope (inC 32 0), [.non, .non, .non], []⟩, ⟨("Let", some "__init__"), "__init__", "Let.__init__", defArgs (inC 42 0), defBody (inC 42 0), defScope (inC 42 0), [], []⟩, ⟨("Jaws", some "__init__"), "__init__", "Jaws.__init__", defArgs (inC 50 0), defBody (inC 50 0), defScope (inC 50 0), [], []⟩]
def hfn7 : List He.DefD := [⟨("Game", some "__init__"), "__init__", "Game.__init__", defArgs (inC 56 0), defBody (inC 56 0), defScope (inC 56 0), [], []⟩]
def hfn : List He.DefD := hfn0 ++ (hfn1 ++ (hfn2 ++ (hfn3 ++ (hfn4 ++ (hfn5 ++ (hfn6 ++ hfn7))))))
def hpr0 : List PrD := [⟨"Turning", "period", "Turning.period", inC 26 2⟩, ⟨"Part", "words", "Part.words", inC 32 1⟩, ⟨"Part", "period", "Part.period", inC 32 2⟩, ⟨"Part", "widths", "Part.widths", inC 32 3⟩, ⟨"Let", "words", "Let.words", inC 42 2⟩]
def hpr : List PrD := hpr0
def exJ (K : PySem.W.Frag) : Bool := He.eqO (PySem.W.nsIn K mainGlobals "lcm") (some (some (.builtin "math.lcm"))) && (He.tupB K "WORDS" [.str "push", .str "squeeze"] && (He.eqO (PySem.W.findIn K (.ref (He.ga K "Part")) "__class__") (some (some (.builtin "object.__class__"))) &&
  (He.eqO (PySem.W.specialIn K (.builtin "object.__class__") "__get__") (some (some (.builtin "getset_descriptor.__get__"))) && (decide (PySem.W.takesIn K (.builtin "object.__class__") = some true) && (decide (PySem.W.mroIn K (He.ga K "Part") (.type "object") = some true) && oexB K (He.ga K "TooMany"))))))
abbrev AlJ : Type := He.AlD × (Bool × List FnJ)
def obsJ (K : PySem.W.Frag) : AlJ := (He.obsD hfa hfn K, (exJ K && hpr.all fun d => d.ok K), hpr.map fun d => fnJ K (d.get K))
def valJ : AlJ := (He.valD hfn, true, hpr.map PrD.val)
def SaysJ (K : PySem.W.Frag) : Prop := obsJ K = valJ
/-- what an object names, as far as it is asked here -/
def refsJ (o : Obj) : List Addr := match o.data with
  | .func u => He.refV u.code ++ (He.refV u.defaults ++ He.refV u.kwdefaults)
  | .dict es _ => es.toList.flatMap fun e => He.refV e.val
  | .cls u => [u.ns]
  | .fields vs => (match o.cls with
    | .type "property" => vs.toList.flatMap He.refV
    | _ => [])
  | _ => []
def nextJ (g : Addr → Option Obj) (as : List Addr) : List Addr := as.flatMap fun a => match g a with
  | some o => refsJ o
  | none => []
def asJ (g : Addr → Option Obj) : Nat → List Addr → List Addr
  | 0, as => as
  | n + 1, as => as ++ asJ g n (nextJ g as)
def lookJ (g : Addr → Option Obj) : AlJ := obsJ (He.frG g (asJ g 5 [mainGlobals]))
def hookJ : PySem.W.Hook where
  α := AlJ
  obs := fun s => lookJ s.heap.get?
  val := fun _ => valJ
  says := fun _ h => ∃ K : PySem.W.Frag, K.In h ∧ SaysJ K
  of := fun _ _ e => ⟨_, He.frG_in, e⟩
  keeps := fun _ _ _ ⟨K, hK, c⟩ k => ⟨K, PySem.W.Frag.In.keeps hK k, c⟩
def loose0 : List Str := ["_wall", "JawError", "BadRound", "BadRows", "BadTurn", "BadStanding", "BadWord", "BadPlan", "BadKinds", "BadLog", "BadMachine", "TooMany", "MOST_ROUND"]
def loose1 : List Str := ["MOST_ROWS_turnings", "MOST_WIDTH", "is_integer", "is_row", "is_place", "check_round", "is_pair", "checked_rows", "rows_turned", "least_period", "Turning", "WORDS", "is_word", "checked_widths"]
def loose2 : List Str := ["check_even", "Part", "MOST_DEEDS", "START", "MOST_STATES", "MOST_RULES", "LETTERS", "is_name", "is_rule", "checked_rules", "Let", "MOST_ROWS_walks", "check_kinds", "MOST_LOG"]
def loose3 : List Str := ["MOST_SQUEEZES", "check_shown", "Jaws", "check_log", "still_fitting", "fitting", "fits", "checked_jaws", "Game", "tell", "_law_pool", "_law_draw", "_law_laps", "_law_rows"]
def loose4 : List Str := ["_law_world", "_law_part", "_law_table", "_law_shown", "_law_shown_part", "_law_lands", "_law_rules", "_law_rules_of", "_law_handed", "_law_worst", "_law_tree", "_law_more", "_law_ways"]
def looseN : List Str := "lcm" :: (loose0 ++ (loose1 ++ (loose2 ++ (loose3 ++ loose4))))
abbrev rowJ : PySem.W.OpenRow := PySem.W.OpenLaw.row PySem.Challenge.rw_jawturns_k92_whole_more_kinds_never_easi
def obJ (s : PySem.W.SharedT) : AlJ := lookJ (HandSHeadRun.getT s)
theorem obJ_eq (s : PySem.W.SharedT) : obJ s = hookJ.obs s.abs := by
  have e : HandSHeadRun.getT s = s.abs.heap.get? := funext (HandSHeadRun.getT_eq s)
  unfold obJ
  rw [e]
  rfl
theorem runJ (w : World) : HandSHeadRun.RunEqI rowJ (PySem.W.view rowJ.prog [0, 76]) hookJ obJ 9000 looseN w := by
  unfold HandSHeadRun.RunEqI
  kernel_rfl
end L2.Jw
set_option Elab.async false
set_option linter.all false
set_option maxRecDepth 100000
set_option maxHeartbeats 4000000
namespace L2.Jw
open PySem PySem.Spec PyProof.Rows
/-! ### o[i], o an instance of an own class with __getitem__ -/
structure GetO (K : PySem.W.Frag) (C g : Addr) : Prop where
  at_ : PySem.W.findIn K (.ref C) "__getitem__" = some (some (.ref g))
  fn : PySem.W.isFn K (.ref g) = true
  fi : PySem.W.fnIn K g = true
def tGetO (C : Addr) (sp : Sp) (E : XK) (ta tb : TE) : TE := fun σ H Q => ta σ H fun x H1 => tb σ H1 fun y H2 => ∃ a dx fs, x = .ref a ∧ H2 a = some (.ins C dx fs) ∧ sp [.ref a, y] H2 Q E
section
variable {X : Cx}
/-- a call of a def one level of the machine deeper -/
theorem run_in1 {CX : CXT} {k : Nat} {f : Addr} {sp : Sp} {E : XK} {Q : VK} {us : List Value} {vs : List V} {pins : List (Addr × Obj)} {σ : St} {H : Hp} {s : Shared} (Fg : FnR X.prog X.w X.K X.mg X.base CX k f sp) (hr : Room (k + 1) X.A) (hx : Passes CX X E)
    (I : Inv X pins σ H s) (r : Vals vs us) (h : sp vs H Q E) : wpAny (model X.prog X.w) X.A.in1 (call (.ref f) us) (EP X pins σ Q) X.xe s := by
  refine wpAny_call (codeAny_mono (Fg X.A.in1 X.stack s H us vs Q E hr.in1 I.env0.in1 r h) fun z s' hz => ?_)
  cases z with
  | error e => exact hx pins σ H s e s' I hz
  | ok fl =>
    cases fl with
    | ret u => exact I.after hz
    | _ => exact hz.elim
theorem pe_getO {CX : CXT} {k : Nat} {C g : Addr} {sp : Sp} {E : XK} {a b : Expr} {ta tb : TE} {pos : Pos} (c : GetO X.K C g) (Fg : FnR X.prog X.w X.K X.mg X.base CX k g sp) (hr : Room (k + 1) X.A) (hx : Passes CX X E) (ha : PE X a ta) (hb : PE X b tb)
    (hsl : ∀ o i, subscripted b true o i = runValue (.builtin "lifetime.subscript" ⟨[o, i], []⟩) := by intro _ _; rfl) : PE X (.Subscript a b pos) (tGetO C sp E ta tb) := by
  refine ⟨fun pins s σ H Q I h => ?_⟩
  refine Subscript_ (binT ha hb I h fun v u s2 x y H2 I2 rx ry q => ?_)
  obtain ⟨a0, dx, fs, rfl, ha0, q⟩ := q
  obtain rfl : v = Value.ref a0 := rx
  obtain ⟨mA, O, _⟩ := ins_get I2.hok ha0
  obtain ⟨od, J, _⟩ := O.look
  obtain ⟨mf, fr⟩ := I2.fr
  exact PySem.W.sub_K fr I2.ok.mod.kin J c.at_ c.fi c.fn (run_in1 (us := [.ref a0, u]) (vs := [.ref a0, y]) Fg hr hx I2 (.cons rfl (.cons ry .nil)) q) (hsl _ _)
/-! ### math.lcm -/
def rLcm : List V → Hp → VK → Prop := fun vs H Q => ∃ a b : Int, vs = [.int a, .int b] ∧ a.natAbs < 2 ^ 64 ∧ b.natAbs < 2 ^ 64 ∧ Q (.int ((Nat.lcm a.natAbs b.natAbs : Nat) : Int)) H
theorem cr_lcm : CallR X (.builtin "math.lcm") rLcm := by
  intro pins s σ H vs us Q I r h
  obtain ⟨a, b, rfl, ha, hb, q⟩ := h
  obtain ⟨t, u, rfl⟩ := Vals.int2 r
  exact PySem.W.mc_lcm ha hb fun _ => ⟨.int _, H, I.tok _, ⟨_, rfl⟩, q⟩
/-! ### what a made thing is, frozen for good: the dict that e has made is not written any more -/
def tFreeze (t : TE) : TE := fun σ H Q => t σ H fun v H' => ∃ d u, v = .ref d ∧ H' d = some u ∧ Mut (some u) ∧ ∀ od, Q v (upd H' d (.frz od u))
theorem pe_freeze {e : Expr} {t : TE} (h : PE X e t) : PE X e (tFreeze t) := by
  refine ⟨fun pins s σ H Q I hw => ?_⟩
  refine thn (h.run pins s σ H _ I hw) fun v s1 ⟨x, H1, I1, r, d, u, ex, hd, mu, q⟩ => ?_
  obtain ⟨od, I2⟩ := I1.lock hd mu
  exact ⟨x, _, I2, r, q od⟩
end
end L2.Jw
set_option Elab.async false
set_option linter.all false
set_option maxRecDepth 100000
set_option maxHeartbeats 4000000
namespace L2.Jw
open PySem PySem.Spec PyProof.Rows
/-! ### plain data, kept -/
mutual
theorem dp_same {K : PySem.W.Frag} {H H' : Hp} (e : Same H H') : ∀ (d : PyData) (v : V), Dp K H v d → Dp K H' v d
  | .none, _, h => by cases h; exact .non
  | .bool b, _, h => by cases h; exact .bl b
  | .int i, _, h => by cases h; exact .int i
  | .str x, _, h => by cases h; exact .str x
  | .list ds, _, h => by
    cases h with
    | lst hs ha => exact .lst (e.seq hs) (dpAll_same e ds _ ha)
  | .tuple ds, _, h => by
    cases h with
    | tup hs ha =>
      refine .tup ?_ (dpAll_same e ds _ ha)
      rcases hs with (hs | ⟨o, hs⟩) | hs
      · exact .inl (.inl (e _ _ hs))
      · exact .inl (.inr ⟨o, e _ _ hs⟩)
      · exact .inr hs
  | .dict _, _, h => by cases h
theorem dpAll_same {K : PySem.W.Frag} {H H' : Hp} (e : Same H H') : ∀ (ds : List PyData) (vs : List V), DpAll K H vs ds → DpAll K H' vs ds
  | [], _, h => by cases h; exact .nil
  | d :: ds, _, h => by
    cases h with
    | cons h1 h2 => exact .cons (dp_same e d _ h1) (dpAll_same e ds _ h2)
end
theorem same_sqT {K : PySem.W.Frag} {H H' : Hp} {a : Addr} {xs : List V} (e : Same H H') (hs : SqT K H a xs) : SqT K H' a xs := by
  rcases hs with (hs | ⟨o, hs⟩) | hs
  · exact .inl (.inl (e _ _ hs))
  · exact .inl (.inr ⟨o, e _ _ hs⟩)
  · exact .inr hs
theorem same_new {H : Hp} {p : Addr} {o : HO} (h : H p = none) : Same H (upd H p o) := fun b u q => by
  rw [upd_ne (ne_of_none q h)]
  exact q
theorem dpAll_len {K : PySem.W.Frag} {H : Hp} : ∀ {vs : List V} {ds : List PyData}, DpAll K H vs ds → vs.length = ds.length
  | _, _, .nil => rfl
  | _, _, .cons _ t => by rw [List.length_cons, List.length_cons, dpAll_len t]
theorem dpAll_get {K : PySem.W.Frag} {H : Hp} : ∀ {vs : List V} {ds : List PyData}, DpAll K H vs ds → ∀ {i : Nat} {v : V}, vs[i]? = some v → ∃ d, ds[i]? = some d ∧ Dp K H v d
  | _, _, .nil, i, v, h => by cases h
  | _, _, .cons r t, 0, v, h => by
    have e := Option.some.inj h
    subst e
    exact ⟨_, rfl, r⟩
  | _, _, .cons r t, i + 1, v, h => dpAll_get t h
theorem dpAll_app {K : PySem.W.Frag} {H : Hp} : ∀ {vs ws : List V} {ds es : List PyData}, DpAll K H vs ds → DpAll K H ws es → DpAll K H (vs ++ ws) (ds ++ es)
  | _, _, _, _, .nil, h => h
  | _, _, _, _, .cons r t, h => .cons r (dpAll_app t h)
theorem dpAll_one {K : PySem.W.Frag} {H : Hp} {v : V} {d : PyData} (h : Dp K H v d) : DpAll K H [v] [d] := .cons h .nil
/-! ### sorted(xs), xs a list of plain data -/
def rSortD {β : Type} (K : PySem.W.Frag) (enc : β → PyData) : List V → Hp → VK → Prop := fun vs H Q => ∃ (a : Addr) (xs : List V) (bs : List β), vs = [.ref a] ∧ SqL K H a xs ∧ DpAll K H xs (bs.map enc) ∧
  PySem.W.AllAlike (bs.map enc) ∧ PySem.W.Sortable (bs.map enc) ∧ (∀ b ∈ bs, (enc b).depth ≤ 30) ∧
  ∀ p ys, H p = none → DpAll K H ys ((bs.mergeSort (PySem.W.dataLe false enc)).map enc) → Q (.ref p) (upd H p (.lst ys))
section
variable {X : Cx} {pins : List (Addr × Obj)} {σ : L2.St} {H : Hp} {s : Shared}
theorem each_of {β : Type} {enc : β → PyData} (I : Inv X pins σ H s) : ∀ {xs : List V} {bs : List β} {us : List Value}, DpAll X.K H xs (bs.map enc) → Vals xs us →
    PySem.W.EachIs (fun v b => (∃ x, RelV x v ∧ Dp X.K H x (enc b)) ∧ ∃ as, Reads s.heap v (enc b) as) us bs
  | xs, [], us, h, r => by
    have h' : DpAll X.K H xs [] := h
    cases h'
    cases r
    exact .nil
  | xs, b :: bs, us, h, r => by
    have h' : DpAll X.K H xs (enc b :: bs.map enc) := h
    cases h' with
    | cons h1 h2 =>
      cases r with
      | cons r1 r2 => exact .cons ⟨⟨_, r1, h1⟩, Dp.reads I _ _ _ h1 r1⟩ (each_of I h2 r2)
theorem each_back {β : Type} {enc : β → PyData} {K : PySem.W.Frag} : ∀ {us : List Value} {bs : List β}, PySem.W.EachIs (fun v b => ∃ x, RelV x v ∧ Dp K H x (enc b)) us bs → ∃ ys, Vals ys us ∧ DpAll K H ys (bs.map enc)
  | _, _, .nil => ⟨[], .nil, .nil⟩
  | _, _, .cons ⟨x, r, d⟩ t => by
    obtain ⟨ys, r2, d2⟩ := each_back t
    exact ⟨x :: ys, .cons r r2, .cons d d2⟩
theorem each_imp {α β : Type} {R S : α → β → Prop} (f : ∀ a b, R a b → S a b) : ∀ {l : List α} {m : List β}, PySem.W.EachIs R l m → PySem.W.EachIs S l m
  | _, _, .nil => .nil
  | _, _, .cons h t => .cons (f _ _ h) (each_imp f t)
theorem cr_sortD {β : Type} {enc : β → PyData} (hu : X.A.units + 64 < cLine) : CallR X (.builtin "sorted") (rSortD X.K enc) := by
  intro pins s σ H vs us Q I r h
  obtain ⟨a, xs, bs, rfl, hs, hd, ha, hk, hz, q⟩ := h
  obtain ⟨its, rv, hl, hz2⟩ := I.list hs
  rw [Vals.ref1 r]
  have both := each_of I hd rv
  have hlen : bs.length ≤ sizeLine := by
    have e1 := dpAll_len hd
    rw [List.length_map] at e1
    rw [← e1]
    exact hz2
  refine PySem.W.sorted_data (bs := bs) (vs := its) (R := fun v b => ∃ x, RelV x v ∧ Dp X.K H x (enc b)) (enc := enc) hl.isList (each_imp (fun _ _ z => z.1) both) (each_imp (fun _ _ z => z.2) both) ha hk hlen (fun b hb => ?_) fun out e1 e2 => ?_
  · have := hz b hb
    omega
  · obtain ⟨ys, r2, d2⟩ := each_back e2
    obtain ⟨c, hc⟩ := sortedAll_at s.heap its out.toArray
    have hp : H (s.heap.objs.size + 1) = none := I.hok.fresh (Nat.le_succ _)
    have hy : ys.length ≤ sizeLine := by rw [r2.length, e1]; exact hlen
    refine ⟨.ref _, _, I.laid (t' := s.toks) (a := s.heap.objs.size + 1) (o := .lst ys) (fun b u z => sortedAll_old z) (Nat.le_succ _) ⟨hy, out, c, r2, hc⟩, rfl, q _ ys hp d2⟩
end
/-! ### min(xs, default=d), xs a list of ints -/
section
variable {prog : Program} {w : World} {A : Around} {R : Result → Shared → Prop} {I : Addr} {fp wr : List Addr} {n : Nat} {Pn : Nat → Value → Prop} {Sn : Nat → Heap → Prop} {d : Value}
/-- what min's list of the best holds behind j items -/
def bestOf (bt : Nat → Nat → Bool) (Pn : Nat → Value → Prop) (j : Nat) (its : Array Value) : Prop := (j = 0 ∧ its = #[]) ∨ ∃ (i : Nat) (v : Value), j = i + 1 ∧ its = #[v, v] ∧ Pn (argBest bt i) v
theorem min_dloop (W : Walks prog w A.in1 I fp wr n Pn Sn) (bt : Nat → Nat → Bool) (cmp : CmpOf prog w A.in1 .Lt Pn bt) (S : Addr) (off : S ∉ fp) :
    ∀ (k j : Nat) (s : Shared) (its : Array Value) (c : Nat), n - j = k → j ≤ n → Sn j s.heap → bestOf bt Pn j its → s.heap.get? S = some { cls := .type "list", dict := none, data := .seq its c, slots := #[] } →
    (∀ v h' tk, (n = 0 ∧ v = d ∨ 0 < n ∧ Pn (argBest bt (n - 1)) v) → (∀ b o, b ∉ wr → b ≠ S → s.heap.get? b = some o → h'.get? b = some o) → R (.ok (.ret v)) { s with heap := h', toks := tk }) →
    codeAny (model prog w) A (.builtin "min.loop" ⟨[.ref I, .none, .ref S], [("default", d)]⟩) R s := by
  have Sw : S ∉ wr := fun z => off (W.sub _ z)
  have nm : (toString "min" ++ toString ".loop" : String) = "min.loop" := by decide
  intro k
  induction k with
  | zero =>
    intro j s its c ek ej st hb hS hR
    have ejn : j = n := by omega
    subst ejn
    refine codeAny_builtin PySem.F.entry_min_loop ?_
    rw [Around.under_plainId PySem.F.plain_min_loop _]
    show wpAny _ A.in1 (seqItems? (.ref S) >>= _) _ _ s
    refine wpAny_bind (wpAny_seqItems hS rfl ?_)
    show wpAny _ A.in1 (tryCatch (pyNext (.ref I)) _ >>= _) _ _ s
    refine wpAny_bind (wpAny_tryCatch (W.done s _ _ st fun h1 t1 k1 => ?_))
    have hS1 := k1 S _ Sw hS
    rcases hb with ⟨e0, eits⟩ | ⟨i, v, ei, eits, hv⟩
    · subst eits
      subst e0
      show wpAny _ A.in1 (rule _ >>= fun _ => ret d) _ _ _
      refine wpAny_bind (wpAny_rule ?_)
      exact wpAny_pure (hR d h1 t1 (.inl ⟨rfl, rfl⟩) fun b o hbw _ e => k1 b o hbw e)
    · subst eits
      show wpAny _ A.in1 (updateSeq S (fun _ => #[]) >>= _) _ _ _
      refine wpAny_bind (wpAny_updateSeq hS1 rfl (wpAny_bind (wpAny_letGo (wpAny_pure ?_))))
      refine hR v _ t1 (.inr ⟨by omega, ?_⟩) fun b o hbw hbS e => (Heap.get?_update_other _ _ (Ne.symm hbS)).trans (k1 b o hbw e)
      rw [ei]
      exact hv
  | succ k ih =>
    intro j s its c ek ej st hb hS hR
    have lt : j < n := by omega
    refine codeAny_builtin PySem.F.entry_min_loop ?_
    rw [Around.under_plainId PySem.F.plain_min_loop _]
    show wpAny _ A.in1 (seqItems? (.ref S) >>= _) _ _ s
    refine wpAny_bind (wpAny_seqItems hS rfl ?_)
    show wpAny _ A.in1 (tryCatch (pyNext (.ref I)) _ >>= _) _ _ s
    refine wpAny_bind (wpAny_tryCatch (W.item j s _ _ lt st fun v h1 t1 hv1 st1 k1 => ?_))
    have hS1 := k1 S _ Sw hS
    rcases hb with ⟨e0, eits⟩ | ⟨i, v0, ei, eits, hv⟩
    · subst eits
      subst e0
      show wpAny _ A.in1 (updateSeq S (fun _ => #[v, v]) >>= _) _ _ _
      refine wpAny_bind (wpAny_updateSeq hS1 rfl ?_)
      rw [nm]
      refine wpAny_pure ⟨plainId_quiet PySem.F.plain_min_loop _, ih 1 _ #[v, v] _ (by omega) lt (W.frame _ _ _ st1 fun b hbf o e => ?_) (.inr ⟨0, v, rfl, rfl, hv1⟩) (Heap.get?_update_self _ hS1 rfl) fun v2 h2 t2 hv2 k2 => ?_⟩
      · exact (Heap.get?_update_other _ _ (fun z : S = b => off (by rw [z]; exact hbf))).trans e
      · exact hR v2 h2 t2 hv2 fun b o hbw hbS e => k2 b o hbw hbS ((Heap.get?_update_other _ _ (Ne.symm hbS)).trans (k1 b o hbw e))
    · subst eits
      subst ei
      show wpAny _ A.in1 (tryCatch (holding [v, v] (richCompare .Lt v v0 >>= _)) _ >>= _) _ _ _
      refine wpAny_bind (wpAny_tryCatch (wpAny_holding (wpAny_bind (cmp (i + 1) (argBest bt i) v v0 _ _ _ hv1 hv ?_))))
      refine wpAny_bind (wpAny_holding (wpAny_truthy_bool ?_))
      refine wpAny_bind (wpAny_letGo (wpAny_pure ?_))
      cases hbt : bt (i + 1) (argBest bt i) with
      | true =>
        simp only [if_true]
        refine wpAny_bind (wpAny_updateSeq hS1 rfl (wpAny_bind (wpAny_letGo ?_)))
        rw [nm]
        refine wpAny_pure ⟨plainId_quiet PySem.F.plain_min_loop _, ih (i + 1 + 1) _ #[v, v] _ (by omega) lt (W.frame _ _ _ st1 fun b hbf o e => ?_) (.inr ⟨i + 1, v, rfl, rfl, ?_⟩) (Heap.get?_update_self _ hS1 rfl) fun v2 h2 t2 hv2 k2 => ?_⟩
        · exact (Heap.get?_update_other _ _ (fun z : S = b => off (by rw [z]; exact hbf))).trans e
        · simp only [argBest, hbt, if_true]
          exact hv1
        · exact hR v2 h2 t2 hv2 fun b o hbw hbS e => k2 b o hbw hbS ((Heap.get?_update_other _ _ (Ne.symm hbS)).trans (k1 b o hbw e))
      | false =>
        simp only [Bool.false_eq_true, if_false]
        refine wpAny_bind (wpAny_letGo ?_)
        rw [nm]
        refine wpAny_pure ⟨plainId_quiet PySem.F.plain_min_loop _, ih (i + 1 + 1) _ #[v0, v0] c (by omega) lt st1 (.inr ⟨i + 1, v0, rfl, rfl, ?_⟩) hS1 fun v2 h2 t2 hv2 k2 => ?_⟩
        · simp only [argBest, hbt, Bool.false_eq_true, if_false]
          exact hv
        · exact hR v2 h2 t2 hv2 fun b o hbw hbS e => k2 b o hbw hbS (k1 b o hbw e)
end
section
variable {prog : Program} {w : World} {A : Around} {E : Value → Shared → Prop} {s : Shared}
theorem args_mind (a d : Value) : argsOk "min" ⟨[a], [("default", d)]⟩ := by unfold argsOk; kernel_rfl
theorem bind_mind (d : Value) : Builtin.Builtins.bindParams "min" ["key", "default"] 0 ⟨[], [("default", d)]⟩ = pure [none, some d] := by kernel_rfl
/-- a built-in function called with keywords, that may go on in its own loop -/
theorem call_kw_tree {id : String} {b : Builtin} {args : List Value} {kw : List (Str × Value)} {Q : Value → Shared → Prop} (hk : builtinKind id = none) (hp : plainId id = true) (hb : entryFor table id = some b) (ha : argsOk id ⟨args, kw⟩)
    (hc : wpAny (model prog w) A.in1 (b ⟨args, kw⟩) (fun z s' => match z with
      | .done f => (match (Except.ok f : Result) with | .ok (.ret v) => Q v s' | .ok _ => False | .error e => E e s')
      | .again c' => c'.quiet = true ∧ codeAny (model prog w) A c' (fun r s' => match r with | .ok (.ret v) => Q v s' | .ok _ => False | .error e => E e s') s') E s) :
    wpAny (model prog w) A (call (.builtin id) args kw) Q E s := by
  refine wpAny_call (codeAny_call_builtin hp hb ?_)
  simp only [checkBuiltinCall, hk]
  cases hsg : Manifest.signature? id with
  | none => exact wpAny_pure hc
  | some sg =>
    have ha2 : Bind.checkArgs id sg ⟨args, kw⟩ = pure () := by simpa only [argsOk, hsg] using ha
    simp only [ha2]
    exact wpAny_pure hc
theorem mind_raw {l : Addr} {its : List Value} {ns : List Int} {d : Value} {Q : Value → Shared → Prop} (hh : A.handled = none) (hl : s.heap.IsList l its.toArray) (hi : IntsAre its ns)
    (h : ∀ h' tk, (∀ b o, s.heap.get? b = some o → h'.get? b = some o) → (ns = [] → Q d { s with heap := h', toks := tk }) ∧ ∀ m t, m ∈ ns → (∀ y, y ∈ ns → m ≤ y) → Q (.int m t) { s with heap := h', toks := tk }) :
    wpAny (model prog w) A (call (.builtin "min") [.ref l] [("default", d)]) Q E s := by
  obtain ⟨xs, e⟩ := hi.allInts.items
  have hn : numsOf (intItems xs).toList = ns := by rw [← e]; exact hi.numsOf
  rw [nums_intItems] at hn
  subst hn
  rw [e] at hl
  have nm : (toString "min" ++ toString ".loop" : String) = "min.loop" := by decide
  refine call_kw_tree PySem.F.kind_min PySem.F.plain_min PySem.F.entry_min (args_mind _ _) ?_
  show wpAny _ A.in1 (Builtin.Builtins.bindParams "min" ["key", "default"] 0 ⟨[], [("default", d)]⟩ >>= _) _ _ s
  refine wpAny_bind (wpAny_of_eq (bind_mind d) ?_)
  refine wpAny_bind (wpAny_pure ?_)
  refine wpAny_bind (iter_intList hl fun s2 e2 st hfp hI => ?_)
  subst e2
  refine wpAny_bind (wpAny_newObj_type ?_)
  rw [nm]
  have off : (s.heap.push { cls := .type "list_iterator", data := .fields #[.ref l, .int 0 0] }).objs.size ∉ [s.heap.objs.size, l] := fun hm => Nat.lt_irrefl _ (hfp _ hm)
  have W := Walks.list (prog := prog) (w := w) (A := A.in1) hh s.heap.objs.size l hI (intItems xs)
  refine wpAny_pure ⟨plainId_quiet PySem.F.plain_min_loop _, min_dloop W (fun i j => decide (numAt xs i < numAt xs j)) (CmpOf.ints_lt (numAt xs) (fun _ _ => intItems_at)) _ off _ 0 _ #[] _ rfl (Nat.zero_le _) (W.frame _ _ _ st fun b _ o e => Heap.get?_push_of_some _ e) (.inl ⟨rfl, rfl⟩) (Heap.get?_push_size _ rfl) fun v h1 t1 hv k1 => ?_⟩
  have kept : ∀ b o, s.heap.get? b = some o → h1.get? b = some o := old_kept (l := l) fun b o hb e => k1 b o hb (fun z => Nat.lt_irrefl _ (by rw [z] at e; exact Heap.lt_size e)) (Heap.get?_push_of_some _ e)
  obtain ⟨q0, q1⟩ := h h1 t1 kept
  have sz : (intItems xs).size = xs.size := by simp [intItems]
  rcases hv with ⟨e0, ev⟩ | ⟨h0, hv⟩
  · subst ev
    refine q0 ?_
    have : xs.toList.length = 0 := by rw [Array.length_toList]; omega
    rw [List.length_eq_zero_iff.mp this]
    rfl
  · obtain ⟨t, rfl⟩ := intItems_at hv
    obtain ⟨h1', h2'⟩ := argBest_lt (numAt xs) (xs.size - 1)
    rw [sz] at h0 ⊢
    refine q1 _ t ?_ fun y hy => ?_
    · rw [numAt_eq]
      exact PySem.getD_mem (by rw [List.length_map, Array.length_toList]; omega)
    · obtain ⟨j, hj, rfl⟩ := mem_getD hy
      rw [List.length_map, Array.length_toList] at hj
      rw [← numAt_eq]
      exact h2' j (by omega)
end
/-- min(xs, default=d): xs a list of ints -/
def rMinD (K : PySem.W.Frag) : List V → List V → Hp → VK → Prop := fun vs zs H Q => ∃ (a : Addr) (ns : List Int) (d : V), vs = [V.ref a] ∧ zs = [d] ∧ SqL K H a (ns.map V.int) ∧ (ns = [] → Q d H) ∧ ∀ m, m ∈ ns → (∀ y, y ∈ ns → m ≤ y) → Q (.int m) H
theorem cr_minD {X : Cx} (hc : X.calm = true) : CallRK X (.builtin "min") [Str.ofString "default"] (rMinD X.K) := by
  intro pins s σ H vs zs us ws Q I r rz h
  obtain ⟨a, ns, d, rfl, rfl, hs, q0, q1⟩ := h
  obtain ⟨its, rv, hl, _⟩ := I.list hs
  rw [Vals.ref1 r]
  obtain ⟨u, rfl, ru⟩ := vals1 rz
  exact mind_raw (I.ok.hd hc) hl.isList rv.ints fun h' tk hk => ⟨fun e => ⟨d, H, I.kept hk, ru, q0 e⟩, fun m t h1 h2 => ⟨.int m, H, I.kept hk, ⟨_, rfl⟩, q1 m h1 h2⟩⟩
end L2.Jw
set_option Elab.async false
set_option linter.all false
set_option maxRecDepth 100000
set_option maxHeartbeats 4000000
namespace L2.Jw
open PySem PySem.Spec PyProof.Rows
/-! ### lots: the keys of choices and worth -/
abbrev Lot := Str × List (Int × Int)
def prD (p : Int × Int) : PyData := .tuple [.int p.1, .int p.2]
def lotD (l : Lot) : PyData := .tuple [.str l.1, .tuple (l.2.map prD)]
def prN (p : Int × Int) : NestedKey := .tup [.num p.1, .num p.2]
def lotN (l : Lot) : NestedKey := .tup [.text l.1, .tup (l.2.map prN)]
theorem prN_inj {p q : Int × Int} (h : prN p = prN q) : p = q := by
  unfold prN at h
  injection h with h
  injection h with h1 h
  injection h with h2 _
  injection h1 with h1
  injection h2 with h2
  exact Prod.ext h1 h2
theorem prNs_inj : ∀ {a b : List (Int × Int)}, a.map prN = b.map prN → a = b
  | [], [], _ => rfl
  | [], _ :: _, h => by cases h
  | _ :: _, [], h => by cases h
  | x :: xs, y :: ys, h => by
    rw [List.map_cons, List.map_cons] at h
    injection h with h1 h2
    rw [prN_inj h1, prNs_inj h2]
theorem lotN_inj {l m : Lot} (h : lotN l = lotN m) : l = m := by
  unfold lotN at h
  injection h with h
  injection h with h1 h
  injection h with h2 _
  injection h1 with h1
  injection h2 with h2
  exact Prod.ext h1 (prNs_inj h2)
theorem prN_depth : ∀ ps : List (Int × Int), NestedKey.depthAll (ps.map prN) ≤ 1
  | [] => by simp [NestedKey.depthAll]
  | p :: ps => by
    have ih := prN_depth ps
    simp only [List.map_cons, NestedKey.depthAll, prN, NestedKey.depth]
    omega
theorem lotN_depth (l : Lot) : (lotN l).depth ≤ 8 := by
  have := prN_depth l.2
  simp only [lotN, NestedKey.depth, NestedKey.depthAll]
  omega
section
variable {X : Cx} {pins : List (Addr × Obj)} {σ : L2.St} {H : Hp} {s : Shared}
theorem dp_pr {K : PySem.W.Frag} {v : V} {p : Int × Int} (h : Dp K H v (prD p)) : ∃ q, v = .ref q ∧ SqT K H q [.int p.1, .int p.2] := by
  unfold prD at h
  cases h with
  | tup hs ha =>
    cases ha with
    | cons h1 ha =>
      cases h1
      cases ha with
      | cons h2 ha =>
        cases h2
        cases ha
        exact ⟨_, rfl, hs⟩
theorem pr_dp {K : PySem.W.Frag} {q : Addr} {a b : Int} (h : SqT K H q [.int a, .int b]) : Dp K H (.ref q) (prD (a, b)) := .tup h (.cons (.int _) (.cons (.int _) .nil))
theorem dp_lot {K : PySem.W.Frag} {v : V} {l : Lot} (h : Dp K H v (lotD l)) : ∃ a b ps, v = .ref a ∧ SqT K H a [.str l.1, .ref b] ∧ SqT K H b ps ∧ DpAll K H ps (l.2.map prD) := by
  unfold lotD at h
  cases h with
  | tup hs ha =>
    cases ha with
    | cons h1 ha =>
      cases h1
      cases ha with
      | cons h2 ha =>
        cases ha
        cases h2 with
        | tup hs2 ha2 => exact ⟨_, _, _, rfl, hs, hs2, ha2⟩
theorem lot_dp {K : PySem.W.Frag} {a b : Addr} {ps : List V} {l : Lot} (h1 : SqT K H a [.str l.1, .ref b]) (h2 : SqT K H b ps) (h3 : DpAll K H ps (l.2.map prD)) : Dp K H (.ref a) (lotD l) := .tup h1 (.cons (.str _) (.cons (.tup h2 h3) .nil))
theorem pr_nested (I : Inv X pins σ H s) {v : V} {u : Value} {p : Int × Int} (h : Dp X.K H v (prD p)) (r : RelV v u) : NestedIs s.heap (prN p) u := by
  obtain ⟨q, rfl, hq⟩ := dp_pr h
  obtain rfl : u = Value.ref q := r
  obtain ⟨its, rv, ⟨o, ho, hc, n, hd⟩, _⟩ := I.tuple hq
  obtain ⟨u1, u2, rfl, r1, r2⟩ := vals2 rv
  obtain ⟨t1, rfl⟩ := r1
  obtain ⟨t2, rfl⟩ := r2
  exact .tup ho hc hd (by simpa using NestedAll.cons (.int _ _) (.cons (.int _ _) .nil))
theorem prs_nested (I : Inv X pins σ H s) : ∀ {ps : List (Int × Int)} {vs : List V} {us : List Value}, DpAll X.K H vs (ps.map prD) → Vals vs us → NestedAll s.heap (ps.map prN) us
  | [], vs, us, h, r => by
    have h' : DpAll X.K H vs [] := h
    cases h'
    cases r
    exact .nil
  | p :: ps, vs, us, h, r => by
    have h' : DpAll X.K H vs (prD p :: ps.map prD) := h
    cases h' with
    | cons h1 h2 =>
      cases r with
      | cons r1 r2 => exact .cons (pr_nested I h1 r1) (prs_nested I h2 r2)
theorem lot_nested (I : Inv X pins σ H s) {a : Addr} {l : Lot} (h : Dp X.K H (.ref a) (lotD l)) : (nestedKind X.prog X.w).is s.heap (lotN l) a := by
  obtain ⟨a', b, ps, e, h1, h2, h3⟩ := dp_lot h
  cases e
  obtain ⟨its, rv, ⟨o, ho, hc, n, hd⟩, _⟩ := I.tuple h1
  obtain ⟨u1, u2, rfl, r1, r2⟩ := vals2 rv
  obtain ⟨t1, rfl⟩ := r1
  obtain rfl : u2 = Value.ref b := r2
  obtain ⟨its2, rv2, ⟨o2, ho2, hc2, n2, hd2⟩, _⟩ := I.tuple h2
  refine ⟨.tup ho hc hd ?_, lotN_depth l⟩
  have inner : NestedIs s.heap (.tup (l.2.map prN)) (.ref b) := .tup ho2 hc2 hd2 (by simpa using prs_nested I h3 rv2)
  simpa using NestedAll.cons (.text _ _) (.cons inner .nil)
end
/-! ### a dict whose keys are lots -/
def NDat (P : Program) (w : World) (d : Addr) (kas : List (NestedKey × Addr × V)) (h : Heap) : Prop :=
  kas.length ≤ sizeLine ∧ (d == sysModules) = false ∧ ∃ xs : List (NestedKey × Addr × Value), Paired (fun (p : NestedKey × Addr × V) (q : NestedKey × Addr × Value) => p.1 = q.1 ∧ p.2.1 = q.2.1 ∧ RelV p.2.2 q.2.2) kas xs ∧
    ∃ o es ep, h.get? d = some o ∧ o.ExactDict ∧ o.data = .dict es ep ∧ es.toList = xs.map (entryOfKey (nestedKind P w)) ∧ (xs.map (·.1)).Nodup
def NDO (P : Program) (w : World) (d : Addr) (kas : List (NestedKey × Addr × V)) : HO := .ext (NDat P w d kas)
abbrev NRel (K : PySem.W.Frag) (H : Hp) : List (Lot × V) → List (NestedKey × Addr × V) → Prop := Paired fun p q => q.1 = lotN p.1 ∧ q.2.2 = p.2 ∧ Dp K H (.ref q.2.1) (lotD p.1)
/-- the dict at d may be read: kvs; it may be written -/
def NDict (P : Program) (w : World) (K : PySem.W.Frag) (H : Hp) (d : Addr) (kvs : List (Lot × V)) : Prop := ∃ kas, Rd H d (NDO P w d kas) ∧ NRel K H kvs kas
def NDictM (P : Program) (w : World) (K : PySem.W.Frag) (H : Hp) (d : Addr) (kvs : List (Lot × V)) : Prop := ∃ kas, H d = some (NDO P w d kas) ∧ NRel K H kvs kas
theorem NDictM.rd {P : Program} {w : World} {K : PySem.W.Frag} {H : Hp} {d : Addr} {kvs : List (Lot × V)} (h : NDictM P w K H d kvs) : NDict P w K H d kvs := let ⟨k, a, b⟩ := h; ⟨k, .inl a, b⟩
theorem ndo_ok {P : Program} {w : World} {H : Hp} {h : Heap} {d : Addr} {kas : List (NestedKey × Addr × V)} (x : NDat P w d kas h) : ObjOk P w H h d (NDO P w d kas) := by
  obtain ⟨z, y, xs, r, o, es, ep, ho, q⟩ := id x
  refine ⟨x, ⟨o, ho⟩, fun h1 h2 x1 k => ?_⟩
  obtain ⟨z, y, xs, r, o, es, ep, ho, q⟩ := x1
  exact ⟨z, y, xs, r, o, es, ep, k o ho, q⟩
theorem NRel.same {K : PySem.W.Frag} {H H' : Hp} {kvs : List (Lot × V)} {kas : List (NestedKey × Addr × V)} (r : NRel K H kvs kas) (e : ∀ (d : PyData) (v : V), Dp K H v d → Dp K H' v d) : NRel K H' kvs kas := Paired.mapP r fun _ _ z => ⟨z.1, z.2.1, e _ _ z.2.2⟩
theorem val_lotN (l : Lot) : ∀ kvs : List (Lot × V), valV (kvs.map fun p => (lotN p.1, p.2)) (lotN l) = valV kvs l
  | [] => rfl
  | p :: r => by
    rw [List.map_cons]
    by_cases e : p.1 = l
    · rw [valV_pos e, valV_pos (p := (lotN p.1, p.2)) (by rw [e])]
    · rw [valV_neg e, valV_neg (p := (lotN p.1, p.2)) (fun z => e (lotN_inj z)), val_lotN l r]
section
variable {X : Cx} {pins : List (Addr × Obj)} {σ : L2.St} {H : Hp} {s : Shared} {d : Addr} {kvs : List (Lot × V)}
theorem nd_rel {K : PySem.W.Frag} {kas : List (NestedKey × Addr × V)} {xs : List (NestedKey × Addr × Value)} (r : NRel K H kvs kas) (r2 : Paired (fun (p : NestedKey × Addr × V) (q : NestedKey × Addr × Value) => p.1 = q.1 ∧ p.2.1 = q.2.1 ∧ RelV p.2.2 q.2.2) kas xs) :
    KV (kvs.map fun p => (lotN p.1, p.2)) (pairsH xs) := by
  induction r generalizing xs with
  | nil =>
    cases r2
    exact .nil
  | cons h t ih =>
    cases r2 with
    | cons h2 t2 =>
      obtain ⟨a1, a2, a3⟩ := h
      obtain ⟨b1, b2, b3⟩ := h2
      refine .cons ⟨a1.symm.trans b1, ?_⟩ (ih t2)
      have e := b3
      rw [a2] at e
      exact e
theorem nd_is (I : Inv X pins σ H s) {kas : List (NestedKey × Addr × V)} {xs : List (NestedKey × Addr × Value)} (r : NRel X.K H kvs kas) (r2 : Paired (fun (p : NestedKey × Addr × V) (q : NestedKey × Addr × Value) => p.1 = q.1 ∧ p.2.1 = q.2.1 ∧ RelV p.2.2 q.2.2) kas xs) :
    ∀ x ∈ xs, (nestedKind X.prog X.w).is s.heap x.1 x.2.1 := by
  induction r generalizing xs with
  | nil =>
    cases r2
    intro x hx
    cases hx
  | cons h t ih =>
    cases r2 with
    | cons h2 t2 =>
      obtain ⟨a1, a2, a3⟩ := h
      obtain ⟨b1, b2, b3⟩ := h2
      intro x hx
      rcases List.mem_cons.mp hx with e | hx
      · subst e
        rw [← b1, ← b2, a1]
        exact lot_nested I a3
      · exact ih t2 x hx
theorem nd_open (I : Inv X pins σ H s) {kas : List (NestedKey × Addr × V)} (h : Rd H d (NDO X.prog X.w d kas)) (r : NRel X.K H kvs kas) :
    kvs.length ≤ sizeLine ∧ (d == sysModules) = false ∧ ∃ xs, Paired (fun (p : NestedKey × Addr × V) (q : NestedKey × Addr × Value) => p.1 = q.1 ∧ p.2.1 = q.2.1 ∧ RelV p.2.2 q.2.2) kas xs ∧ s.heap.DictOfH (nestedKind X.prog X.w) d xs := by
  obtain ⟨⟨z, y, xs, r2, o, es, ep, h1, h2, h3, h4, h5⟩, _, _⟩ := (show ObjOk X.prog X.w H s.heap d (NDO X.prog X.w d kas) from rd_of I.hok h)
  exact ⟨by rw [Paired.length r]; exact z, y, xs, r2, o, es, ep, h1, h2, h3, h4, nd_is I r r2, h5⟩
theorem nd_keyed (I : Inv X pins σ H s) (h : NDict X.prog X.w X.K H d kvs) : kvs.length ≤ sizeLine ∧ (d == sysModules) = false ∧ ∃ vs, s.heap.DictKeyed (nestedKind X.prog X.w) d vs ∧ KV (kvs.map fun p => (lotN p.1, p.2)) vs := by
  obtain ⟨kas, hd, r⟩ := h
  obtain ⟨z, y, xs, r2, hx⟩ := nd_open I hd r
  exact ⟨z, y, _, ⟨xs, hx, rfl⟩, nd_rel r r2⟩
end
/-- l in d, l not in d -/
def rNIn (P : Program) (w : World) (K : PySem.W.Frag) (neg : Bool) : R2 := fun x y H Q => ∃ d kvs l, y = .ref d ∧ NDict P w K H d kvs ∧ Dp K H x (lotD l) ∧ Q (.bl (if neg then !(valV kvs l).isSome else (valV kvs l).isSome)) H
section
variable {X : Cx}
theorem op_nin (hu : X.A.units + 64 < cLine) : OpR X (compareOp .In) (rNIn X.prog X.w X.K false) := by
  intro pins s σ H x y v u Q I rx ry h
  obtain ⟨d, kvs, l, rfl, hd, hl, q⟩ := h
  obtain ⟨a, b, ps, rfl, _⟩ := dp_lot hl
  obtain rfl : v = Value.ref a := rx
  obtain rfl : u = Value.ref d := ry
  obtain ⟨z, y, vs, hk, rel⟩ := nd_keyed I hd
  refine in_keyed (knd := nestedKind X.prog X.w) (show X.A.in1.units + 8 < cLine by rw [Around.in1_units]; omega) (lot_nested I hl) y hk ?_
  have e := (rel.val (lotN l)).isSome_eq
  rw [val_lotN] at e
  rw [← e]
  exact ⟨.bl _, H, I.tok _, rfl, q⟩
theorem op_nnotin (hu : X.A.units + 64 < cLine) : OpR X (compareOp .NotIn) (rNIn X.prog X.w X.K true) := by
  intro pins s σ H x y v u Q I rx ry h
  obtain ⟨d, kvs, l, rfl, hd, hl, q⟩ := h
  obtain ⟨a, b, ps, rfl, _⟩ := dp_lot hl
  obtain rfl : v = Value.ref a := rx
  obtain rfl : u = Value.ref d := ry
  obtain ⟨z, y, vs, hk, rel⟩ := nd_keyed I hd
  refine notIn_keyed (knd := nestedKind X.prog X.w) (show X.A.in1.units + 8 < cLine by rw [Around.in1_units]; omega) (lot_nested I hl) y hk ?_
  have e := (rel.val (lotN l)).isSome_eq
  rw [val_lotN] at e
  rw [← e]
  exact ⟨.bl _, H, I.tok _, rfl, q⟩
/-- d[l] -/
def rNGet (P : Program) (w : World) (K : PySem.W.Frag) : R2 := fun x y H Q => ∃ d kvs l v, x = .ref d ∧ NDict P w K H d kvs ∧ Dp K H y (lotD l) ∧ valV kvs l = some v ∧ Q v H
theorem ix_nget (hu : X.A.units + 64 < cLine) : IxR X (rNGet X.prog X.w X.K) := by
  intro value slice pins s σ H x y v u Q I rx ry h hs
  obtain ⟨d, kvs, l, z, rfl, hd, hl, hv, q⟩ := h
  obtain ⟨a, b, ps, rfl, _⟩ := dp_lot hl
  obtain rfl : v = Value.ref d := rx
  obtain rfl : u = Value.ref a := ry
  obtain ⟨z1, y1, vs, hk, rel⟩ := nd_keyed I hd
  have e := rel.val (lotN l)
  rw [val_lotN, hv] at e
  obtain ⟨w', hw, rw'⟩ := RelO.some_of e
  exact subscriptTail_builtinR (x := w') hk.typeIs PySem.F.slot_dict_getitem.lookup
    (getItem_keyed (knd := nestedKind X.prog X.w) (show X.A.in1.units + 8 < cLine by rw [Around.in1_units]; omega) (lot_nested I hl) hk hw ⟨rfl, ⟨z, H, I.tok _, rw', q⟩⟩) hs
/-- the tuples stand -/
def TKeep (K : PySem.W.Frag) (H H' : Hp) : Prop := ∀ b xs, SqT K H b xs → SqT K H' b xs
theorem tkeep_upd {K : PySem.W.Frag} {H : Hp} {d : Addr} {o u : HO} (hd : H d = some o) (h1 : ∀ xs, o ≠ .tup xs) (h2 : ∀ a b, o ≠ .frz a b) : TKeep K H (upd H d u) := fun b xs h => by
  rcases h with (h | ⟨a, h⟩) | h
  · refine .inl (.inl ?_)
    rw [upd_ne (fun z => by rw [z, hd] at h; exact h1 _ (Option.some.inj h))]
    exact h
  · refine .inl (.inr ⟨a, ?_⟩)
    rw [upd_ne (fun z => by rw [z, hd] at h; exact h2 _ _ (Option.some.inj h))]
    exact h
  · exact .inr h
theorem tkeep_same {K : PySem.W.Frag} {H H' : Hp} (e : Same H H') : TKeep K H H' := fun _ _ h => same_sqT e h
theorem prs_tkeep {K : PySem.W.Frag} {H H' : Hp} (e : TKeep K H H') : ∀ {ps : List (Int × Int)} {vs : List V}, DpAll K H vs (ps.map prD) → DpAll K H' vs (ps.map prD)
  | [], vs, h => by
    have h' : DpAll K H vs [] := h
    cases h'
    exact .nil
  | p :: ps, vs, h => by
    have h' : DpAll K H vs (prD p :: ps.map prD) := h
    cases h' with
    | cons h1 h2 =>
      obtain ⟨q, rfl, hq⟩ := dp_pr h1
      exact .cons (pr_dp (e _ _ hq)) (prs_tkeep e h2)
theorem lot_tkeep {K : PySem.W.Frag} {H H' : Hp} (e : TKeep K H H') {v : V} {l : Lot} (h : Dp K H v (lotD l)) : Dp K H' v (lotD l) := by
  obtain ⟨a, b, ps, rfl, h1, h2, h3⟩ := dp_lot h
  exact lot_dp (e _ _ h1) (e _ _ h2) (prs_tkeep e h3)
theorem nrel_tkeep {K : PySem.W.Frag} {H H' : Hp} (e : TKeep K H H') {kvs : List (Lot × V)} {kas : List (NestedKey × Addr × V)} (r : NRel K H kvs kas) : NRel K H' kvs kas := Paired.mapP r fun _ _ z => ⟨z.1, z.2.1, lot_tkeep e z.2.2⟩
theorem paired_snoc {α β : Type} {F : α → β → Prop} : ∀ {xs : List α} {ys : List β} {x : α} {y : β}, Paired F xs ys → F x y → Paired F (xs ++ [x]) (ys ++ [y])
  | _, _, _, _, .nil, h => .cons h .nil
  | _, _, _, _, .cons r t, h => .cons r (paired_snoc t h)
/-- d[l] = v, l not there yet -/
def rNPut (P : Program) (w : World) (K : PySem.W.Frag) : V → V → V → Hp → (Hp → Prop) → Prop := fun o i v H Q => ∃ d kvs l, o = .ref d ∧ NDictM P w K H d kvs ∧ Dp K H i (lotD l) ∧ valV kvs l = none ∧ kvs.length < sizeLine ∧
  ∀ H', (∀ b, b ≠ d → H' b = H b) → NDictM P w K H' d (kvs ++ [(l, v)]) → Q H'
theorem set_nput (hu : X.A.units + 64 < cLine) : PSet X (rNPut X.prog X.w X.K) := by
  intro pins s σ H o i v o' i' v' Q I ro ri rv h
  obtain ⟨d, kvs, l, rfl, ⟨kas, hd, r⟩, hl, hn, hz, q⟩ := h
  obtain ⟨a, b, ps, rfl, _⟩ := dp_lot hl
  obtain rfl : o' = Value.ref d := ro
  obtain rfl : i' = Value.ref a := ri
  obtain ⟨z, y, xs, r2, hx⟩ := nd_open I (.inl hd) r
  have rel := nd_rel r r2
  have e := rel.val (lotN l)
  rw [val_lotN, hn] at e
  have en : valueAt (pairsH xs) (lotN l) = none := RelO.none_of e
  rw [valueAt_pairsH] at en
  have en2 : atKey xs (lotN l) = none := Option.map_eq_none_iff.mp en
  have l1 : kvs.length = kas.length := Paired.length r
  have l2 : kas.length = xs.length := Paired.length r2
  refine wpAny_setItem_heap (knd := nestedKind X.prog X.w) (show X.A.in1.units + 8 < cLine by rw [Around.in1_units]; omega) (lot_nested I hl) hx (fun h' hx' sb => ?_) (by omega)
  rw [storedH_new en2] at hx'
  obtain ⟨o, es, ep, h1, h2, h3, h4, _, h5⟩ := hx'
  have new : NDat X.prog X.w d (kas ++ [(lotN l, a, v)]) h' := by
    refine ⟨by rw [List.length_append, List.length_singleton]; omega, y, _, paired_snoc r2 ⟨rfl, rfl, rv⟩, o, es, ep, h1, h2, h3, h4, h5⟩
  have J := d_write (t' := s.toks + (nestedKind X.prog X.w).draws (lotN l)) I (by rw [hd]; exact True.intro) sb ⟨o, h1⟩ (ndo_ok (H := upd H d (NDO X.prog X.w d (kas ++ [(lotN l, a, v)]))) new)
  have tk : TKeep X.K H (upd H d (NDO X.prog X.w d (kas ++ [(lotN l, a, v)]))) := tkeep_upd hd (fun _ z => nomatch z) (fun _ _ z => nomatch z)
  refine ⟨_, J, q _ (fun b hb => upd_ne hb) ⟨_, upd_same, paired_snoc (nrel_tkeep tk r) ⟨rfl, rfl, lot_tkeep tk hl⟩⟩⟩
/-- {}, to be a dict of lots -/
def tNNew (P : Program) (w : World) (K : PySem.W.Frag) : TE := fun _ H Q => ∀ p, H p = none → ∀ H', (∀ b, b ≠ p → H' b = H b) → NDictM P w K H' p [] → Q (.ref p) H'
theorem pe_nnew {pos : Pos} : PE X (.Dict [] [] pos) (tNNew X.prog X.w X.K) := ⟨fun pins s σ H Q I h => by
  have hp : H s.heap.objs.size = none := I.hok.fresh (Nat.le_refl _)
  have new : NDat X.prog X.w s.heap.objs.size [] (s.heap.push { cls := .type "dict", data := .dict #[] }) :=
    ⟨Nat.zero_le _, beq_eq_false_iff_ne.mpr (Ne.symm (Nat.ne_of_lt I.big)), [], .nil, _, #[], 0, Heap.get?_push_size _ rfl, ⟨rfl, rfl, rfl⟩, rfl, rfl, List.nodup_nil⟩
  exact wpAny_Dict_empty ⟨.ref s.heap.objs.size, _, I.laid (a := s.heap.objs.size) (o := NDO X.prog X.w s.heap.objs.size []) (t' := s.toks) (fun _ _ z => Heap.get?_push_of_some _ z) (Nat.le_refl _) (ndo_ok new), rfl,
    h _ hp _ (fun b hb => upd_ne hb) ⟨[], upd_same, .nil⟩⟩⟩
/-- d.get(l, x) -/
def tNGet2 (P : Program) (w : World) (K : PySem.W.Frag) (td ty tx : TE) : TE := fun σ H Q => td σ H fun x H1 => ∃ d kvs, x = .ref d ∧ NDict P w K H1 d kvs ∧ ty σ H1 fun y H2 => tx σ H2 fun z H3 => ∃ kvs' l, NDict P w K H3 d kvs' ∧ Dp K H3 y (lotD l) ∧ Q ((valV kvs' l).getD z) H3
theorem pe_nget2 {o e f : Expr} {apos cpos : Pos} {td ty tx : TE} (hu : X.A.units + 64 < cLine) (ho : PE X o td) (he : PE X e ty) (hf : PE X f tx) (m : M2 X o "get" apos e f cpos) : PE X (.Call (.Attribute o "get" apos) [e, f] [] cpos) (tNGet2 X.prog X.w X.K td ty tx) := by
  refine ⟨fun pins s σ H Q I h => ?_⟩
  refine wpAny_Call_method m.base m.few m.line PySem.F.plainAttrs_dict PySem.F.slot_dict_get PySem.F.type_dict_get (thn (ho.run pins s σ H _ I h) fun u s1 ⟨x, H1, I1, rx, d, kvs, ex, hd, q1⟩ => ?_)
  subst ex
  obtain rfl : u = Value.ref d := rx
  obtain ⟨z0, y0, vs, hk, _⟩ := nd_keyed I1 hd
  refine ⟨hk.typeIs, fun b eb => ?_, ?_⟩
  · cases eb
    obtain ⟨xs, ⟨ob, _, _, h1, h2, _⟩, _⟩ := hk
    exact ⟨ob, h1, h2.2.1⟩
  · rw [m.trees]
    refine Calls.callWith_builtin rfl (Calls.evalArgs_plain (Calls.spliced_cons (thn (he.run pins s1 σ H1 _ I1 q1) fun iv s2 ⟨y, H2, I2, ry, q2⟩ =>
      Calls.spliced_cons (thn (hf.run pins s2 σ H2 _ I2 q2) fun fv s3 ⟨z, H3, I3, rz, kvs', l, hd3, hl, q3⟩ => Calls.spliced_nil ?_))))
    obtain ⟨z1, y1, vs3, hk3, rel⟩ := nd_keyed I3 hd3
    obtain ⟨a, b, ps, rfl, _⟩ := dp_lot hl
    obtain rfl : iv = Value.ref a := ry
    refine getOr_keyed (knd := nestedKind X.prog X.w) (show X.A.in1.units + 8 < cLine by rw [Around.in1_units]; omega) (lot_nested I3 hl) y1 hk3 ?_
    have er := (rel.val (lotN l)).getD rz
    rw [val_lotN] at er
    exact ⟨_, H3, I3.tok _, er, q3⟩
/-- len(d) -/
def rNLen (P : Program) (w : World) (K : PySem.W.Frag) : List V → Hp → VK → Prop := fun vs H Q => ∃ d kvs, vs = [.ref d] ∧ NDict P w K H d kvs ∧ Q (.int kvs.length) H
theorem cr_nlen : CallR X (.builtin "len") (rNLen X.prog X.w X.K) := by
  intro pins s σ H vs us Q I r h
  obtain ⟨d, kvs, rfl, ⟨kas, hd, rk⟩, q⟩ := h
  rw [Vals.ref1 r]
  obtain ⟨z, y, xs, r2, hx⟩ := nd_open I hd rk
  have l1 : kvs.length = kas.length := Paired.length rk
  have l2 : kas.length = xs.length := Paired.length r2
  have e : (xs.length : Int) = kvs.length := by omega
  refine call_len_dictH y hx (by have := line63; omega) ?_
  rw [e]
  exact ⟨.int _, H, I.tok _, ⟨_, rfl⟩, q⟩
/-! ### for l, v in d.items() -/
def Itn (P : Program) (w : World) (d : Addr) (o : Obj) (kas : List (NestedKey × Addr × V)) : It :=
  ⟨fun i H => H d = some (.frz o (NDO P w d kas)) ∧ i < kas.length, fun i H x H' => ∃ T ka, kas[i]? = some ka ∧ x = .ref T ∧ H T = none ∧ H' = upd H T (.tup [.ref ka.2.1, ka.2.2]), fun i H => H d = some (.frz o (NDO P w d kas)) ∧ kas.length ≤ i⟩
theorem nfrz_at {pins : List (Addr × Obj)} {σ : L2.St} {H : Hp} {s : Shared} {d : Addr} {o : Obj} {kas : List (NestedKey × Addr × V)} (I : Inv X pins σ H s) (h : H d = some (.frz o (NDO X.prog X.w d kas))) :
    (d == sysModules) = false ∧ s.heap.get? d = some o ∧ o.ExactDict ∧ ∃ (es : Array DictEntry) (ep : Nat), o.data = .dict es ep ∧ es.size = kas.length ∧ ∀ (i : Nat) (hi : i < es.size), ∃ ka, kas[i]? = some ka ∧ es[i].key = .ref ka.2.1 ∧ RelV ka.2.2 es[i].val := by
  obtain ⟨hd, ⟨z, y, xs, r2, ob, es, ep, h1, h2, h3, h4, h5⟩, _⟩ := (show ObjOk X.prog X.w H s.heap d (.frz o (NDO X.prog X.w d kas)) from I.hok d _ h)
  rw [hd] at h1
  cases h1
  have l2 : kas.length = xs.length := Paired.length r2
  have l3 : es.size = xs.length := size_of_entries h4
  refine ⟨y, hd, h2, es, ep, h3, by omega, fun i hi => ?_⟩
  have q := entry_at h4 i
  have hk : kas[i]? = some kas[i] := List.getElem?_eq_getElem (by omega)
  obtain ⟨b, hb, e1, e2, e3⟩ := paired_get r2 hk
  rw [hb, Array.getElem?_eq_getElem hi] at q
  have qe : es[i] = entryOfKey (nestedKind X.prog X.w) b := Option.some.inj q
  refine ⟨_, hk, ?_, ?_⟩
  · rw [qe, e2]
    rfl
  · rw [qe]
    exact e3
theorem turn_nitems {P : Program} {w : World} {K : PySem.W.Frag} {d : Addr} {o : Obj} {es : Array DictEntry} {ep : Nat} {kas : List (NestedKey × Addr × V)} {elts : List Expr} {kk : Nat} {tpos : Pos} (it : Addr) (hod : o.data = .dict es ep) :
    Turn P w K (.Tuple elts kk tpos) (Itn P w d o kas) [it] it (fun i h => ∃ ok ov, IsItemIter h it d i es.size ep ok ov) where
  mem := by simp
  obj := fun i h st b hb => by
    have e : b = it := by simpa using hb
    subst e
    obtain ⟨ok, ov, e⟩ := st
    exact ⟨_, e, fun v z => nomatch z⟩
  keep := fun i h h' st k => let ⟨ok, ov, e⟩ := st; ⟨ok, ov, k it (by simp) _ e⟩
  item := by
    intro X hP hw hK hc i pins s σ H E I hf st hg
    subst hP hw hK
    obtain ⟨hd, hi⟩ := hg
    obtain ⟨hs, hgd, hx, es', ep', hdt, hsz, hall⟩ := nfrz_at I hd
    obtain ⟨rfl, rfl⟩ := dict_ep hod hdt
    obtain ⟨ok, ov, he⟩ := st
    have hlt : it < s.heap.objs.size := Heap.lt_size he
    have hi2 : i < es'.size := by omega
    obtain ⟨ka, hka, ek, rv⟩ := hall i hi2
    refine wpAny_pyNext_items_item_raw he ⟨o, hgd, hx, hdt⟩ hi2 fun h1 ho hT hz k1 => ?_
    refine ⟨_, rfl, wpAny_letOwnedTupleGo_items (s := { s with heap := h1 }) ho fun h2 he2 sb => ?_⟩
    have hT2 : h2.get? s.heap.objs.size = some { cls := .type "tuple", data := .seq #[es'[i].key, es'[i].val] } := (sb.2 _ (Nat.ne_of_gt hlt)).trans hT
    have new : ObjOk X.prog X.w (upd H s.heap.objs.size (.tup [.ref ka.2.1, ka.2.2])) h2 s.heap.objs.size (.tup [.ref ka.2.1, ka.2.2]) :=
      ⟨by show 2 ≤ sizeLine; decide, [es'[i].key, es'[i].val], .cons ek (.cons rv .nil), ⟨_, hT2, rfl, _, rfl⟩⟩
    have I1 : Inv X pins σ (upd H s.heap.objs.size (.tup [.ref ka.2.1, ka.2.2])) { s with heap := h2 } :=
      I.turnedNew (t' := s.toks) (ch := [it]) (fun b ob hb e => (sb.2 b (by simpa using hb)).trans (k1 b ob (by simpa using hb) e)) hf (Nat.le_refl _) new
    refine ⟨.ref s.heap.objs.size, _, I1, rfl, ⟨_, ka, hka, rfl, I.hok.fresh (Nat.le_refl _), rfl⟩, ⟨_, _, he2⟩, fun b hb => ?_⟩
    have e : b = it := by simpa using hb
    rw [e, upd_ne (Nat.ne_of_lt hlt)]
    exact (hf it (by simp)).1
  done := by
    intro X hP hw hK hc i pins s σ H E I hf st hg
    subst hP hw hK
    obtain ⟨hd, hi⟩ := hg
    obtain ⟨f0, f1, f2, f3, f4, f5⟩ := hf it (by simp)
    obtain ⟨hs, hgd, hx, es', ep', hdt, hsz, _⟩ := nfrz_at I hd
    obtain ⟨rfl, rfl⟩ := dict_ep hod hdt
    obtain ⟨ok, ov, he⟩ := st
    exact wpAny_pyNext_items_end_raw (I.ok.hd hc) he ⟨o, hgd, hx, hdt⟩ (by omega) fun h1 eb => ⟨rfl, I.turned (t' := s.toks) (fun b ob hb e => eb b ob hb e) f0 f1 f3 f4 f5⟩
  self := fun A i s Q E st h => let ⟨_, _, e⟩ := st; PySem.W.kcp_self e h
def iNItems (P : Program) (w : World) (td : TE) : TI := fun σ H R => td σ H fun x H1 => ∃ d o kas, x = .ref d ∧ H1 d = some (.frz o (NDO P w d kas)) ∧ R (Itn P w d o kas) H1
theorem pi_nitems {e : Expr} {td : TE} {apos cpos : Pos} {elts : List Expr} {kk : Nat} {tpos : Pos} (he : PE X e td) (hbase : attributeBase e "items" X.env (eval e X.env) = eval e X.env := by rfl) (hline : (apos.endLine == cpos.line) = true := by rfl) :
    PI X (.Tuple elts kk tpos) (.Call (.Attribute e "items" apos) [] [] cpos) (iNItems X.prog X.w td) := by
  refine ⟨fun pins s σ H R I h => ?_⟩
  refine wpAny_Call_method (T := "dict") (id := "dict.items") hbase rfl hline PySem.F.plainAttrs_dict PySem.F.slot_dict_items PySem.F.type_dict_items (thn (he.run pins s σ H _ I h) fun u s1 ⟨x, H1, I1, rx, d, o, kas, ex, hd, q⟩ => ?_)
  subst ex
  obtain rfl : u = Value.ref d := rx
  obtain ⟨hs, hgd, hx, es, ep, hdt, hsz, _⟩ := nfrz_at I1 hd
  have raw : s1.heap.DictRaw d es ep := ⟨o, hgd, hx, hdt⟩
  refine ⟨raw.typeIs, fun a ea => by cases ea; exact ⟨o, hgd, hx.2.1⟩, ?_⟩
  have I2 : Inv X pins σ H1 { s1 with heap := s1.heap.push { cls := .type "dict_items", data := .fields #[.ref d] } } := I1.kept (t' := s1.toks) fun b ob z => Heap.get?_push_of_some _ z
  have fin : wpAny (model X.prog X.w) X.A (pyIter (.ref s1.heap.objs.size)) (PIE X pins σ (.Tuple elts kk tpos) R) X.xe { s1 with heap := s1.heap.push { cls := .type "dict_items", data := .fields #[.ref d] } } := by
    refine wpAny_pyIter_items_raw (d := d) ⟨_, Heap.get?_push_size _ rfl, rfl, rfl⟩ (raw.at fun o z => Heap.get?_push_of_some _ z) (pi_one (tk := s1.toks) I2 _ (turn_nitems _ hdt) ⟨.none, .none, ?_⟩ q)
    exact Heap.get?_push_size _ rfl
  show wpAny _ _ (callWith cpos (.builtin "dict.items") [.ref d] [] []) _ X.xe s1
  exact method_meetsIn PySem.F.slot_dict_items PySem.F.entry_dict_items rfl (PySem.evalArgs_none ⟨rfl, raw.typeIs, PySem.F.args_dict_items_1 _, _, meets_dict_items_raw d hs, ⟨⟨es, ep, raw⟩, fin⟩⟩)
end
end L2.Jw
set_option Elab.async false
set_option linter.all false
set_option maxRecDepth 100000
set_option maxHeartbeats 4000000
namespace L2.Jw
open PySem PySem.Spec PyProof.Rows
/-! ### where defs stand, and what is known of them -/
def DefAt (K : PySem.W.Frag) (mg : Str → Option Value) (x : Str) (st : Stmt) : Prop := ∃ f fd, mg x = some (.ref f) ∧ FnP K x x st [] [] f fd
def MetAt (K : PySem.W.Frag) (C : Addr) (m q : Str) (st : Stmt) : Prop := ∃ f fd, Meth K C m f ∧ FnP K m q st [] [] f fd
def Df (P : Program) (w : World) (K : PySem.W.Frag) (mg : Str → Option Value) (base : Heap) (CX : CXT) (k : Nat) (x : Str) (sp : Sp) : Prop := ∃ f, mg x = some (.ref f) ∧ PySem.W.keepIn K (.ref f) = true ∧ FnR P w K mg base CX k f sp
def Me (P : Program) (w : World) (K : PySem.W.Frag) (mg : Str → Option Value) (base : Heap) (CX : CXT) (k : Nat) (C : Addr) (m : Str) (sp : Sp) : Prop := ∃ f, Cls K C ∧ Meth K C m f ∧ FnR P w K mg base CX k f sp
def Mkr (P : Program) (w : World) (K : PySem.W.Frag) (mg : Str → Option Value) (base : Heap) (CX : CXT) (k : Nat) (x : Str) (C : Addr) (sp : Sp) : Prop := ∃ f, mg x = some (.ref C) ∧ Mk K C f ∧ FnR P w K mg base CX k f sp
abbrev Bnd0 (x q : Str) (st : Stmt) (ps : List Str) : Prop := ∀ (kV doc pm : Value) (an : Option Addr) (cdv ct : Value) (us : List Value), us.length = ps.length → bindArgs (PySem.W.fnOf x q (defArgs st) (defBody st) (defScope st) .none kV doc pm an cdv ct) ⟨us, []⟩ = pure (ps.zip us)
section
variable {P : Program} {w : World} {K : PySem.W.Frag} {mg : Str → Option Value} {base : Heap} {CX : CXT} {x q m : Str} {st : Stmt} {N ps : List Str} {k : Nat} {sp : Sp} {f C : Addr} {fd : FuncData}
theorem fnr_X (F : FnP K x q st [] [] f fd) (S : FnScope N ps (defScope st)) (hb : Bnd0 x q st ps) (len : ∀ vs H Q E, sp vs H Q E → vs.length = ps.length)
    (hbody : ∀ (cdv : Value) (A : Around) (outer : List Env) (s : Shared) (H : Hp) (vs : List V) (Q : VK) (E : XK), Room k (A.deeper (envOfC q (defScope st) s.heap.objs.size f cdv)) → sp vs H Q E →
      ∃ t, PSs (cxOf CX P w K mg base N q (defScope st) f cdv A outer s H E) (defBody st) t ∧ t { nx := fun _ H' => Q .non H', rt := Q } (start N vs) H) : FnR P w K mg base CX (k + 1) f sp := by
  have G : FnOk P w K mg base CX (k + 1) f fd ps sp := F.ok S len hbody
  have B : Binds K fd ps [] := F.bindsN hb
  exact (G.raw B .nil).imp fun vs H Q E h => by
    show sp (vs ++ []) H Q E
    rw [List.append_nil]
    exact h
theorem fnr_0 (F : FnP K x q st [] [] f fd) (S : FnScope N ps (defScope st)) (hb : Bnd0 x q st ps) (len : ∀ vs H Q E, sp vs H Q E → vs.length = ps.length)
    (hbody : ∀ (cdv : Value) (A : Around) (outer : List Env) (s : Shared) (H : Hp) (vs : List V) (Q : VK) (E : XK), Room k (A.deeper (envOfC q (defScope st) s.heap.objs.size f cdv)) → sp vs H Q E →
      ∃ t, PSs (cxOf CX0 P w K mg base N q (defScope st) f cdv A outer s H E).nox (defBody st) t ∧ t { nx := fun _ H' => Q .non H', rt := Q } (start N vs) H) : FnR P w K mg base CX0 (k + 1) f sp :=
  fnr_X F S hb len fun cdv A outer s H vs Q E hr h => by
    obtain ⟨t, ht, hq⟩ := hbody cdv A outer s H vs Q E hr h
    exact ⟨t, ht.nox, hq⟩
theorem df_0 (D : DefAt K mg x st) (S : FnScope N ps (defScope st)) (hb : Bnd0 x x st ps) (len : ∀ vs H Q E, sp vs H Q E → vs.length = ps.length)
    (hbody : ∀ (f : Addr) (cdv : Value) (A : Around) (outer : List Env) (s : Shared) (H : Hp) (vs : List V) (Q : VK) (E : XK), Room k (A.deeper (envOfC x (defScope st) s.heap.objs.size f cdv)) → sp vs H Q E →
      ∃ t, PSs (cxOf CX0 P w K mg base N x (defScope st) f cdv A outer s H E).nox (defBody st) t ∧ t { nx := fun _ H' => Q .non H', rt := Q } (start N vs) H) : Df P w K mg base CX0 (k + 1) x sp := by
  obtain ⟨f, fd, e, F⟩ := D
  exact ⟨f, e, F.kp, fnr_0 F S hb len (hbody f)⟩
theorem df_X (D : DefAt K mg x st) (S : FnScope N ps (defScope st)) (hb : Bnd0 x x st ps) (len : ∀ vs H Q E, sp vs H Q E → vs.length = ps.length)
    (hbody : ∀ (f : Addr) (cdv : Value) (A : Around) (outer : List Env) (s : Shared) (H : Hp) (vs : List V) (Q : VK) (E : XK), Room k (A.deeper (envOfC x (defScope st) s.heap.objs.size f cdv)) → sp vs H Q E →
      ∃ t, PSs (cxOf CX P w K mg base N x (defScope st) f cdv A outer s H E) (defBody st) t ∧ t { nx := fun _ H' => Q .non H', rt := Q } (start N vs) H) : Df P w K mg base CX (k + 1) x sp := by
  obtain ⟨f, fd, e, F⟩ := D
  exact ⟨f, e, F.kp, fnr_X F S hb len (hbody f)⟩
theorem me_0 (c : Cls K C) (D : MetAt K C m q st) (S : FnScope N ps (defScope st)) (hb : Bnd0 m q st ps) (len : ∀ vs H Q E, sp vs H Q E → vs.length = ps.length)
    (hbody : ∀ (f : Addr) (cdv : Value) (A : Around) (outer : List Env) (s : Shared) (H : Hp) (vs : List V) (Q : VK) (E : XK), Room k (A.deeper (envOfC q (defScope st) s.heap.objs.size f cdv)) → sp vs H Q E →
      ∃ t, PSs (cxOf CX0 P w K mg base N q (defScope st) f cdv A outer s H E).nox (defBody st) t ∧ t { nx := fun _ H' => Q .non H', rt := Q } (start N vs) H) : Me P w K mg base CX0 (k + 1) C m sp := by
  obtain ⟨f, fd, e, F⟩ := D
  exact ⟨f, c, e, fnr_0 F S hb len (hbody f)⟩
theorem me_X (c : Cls K C) (D : MetAt K C m q st) (S : FnScope N ps (defScope st)) (hb : Bnd0 m q st ps) (len : ∀ vs H Q E, sp vs H Q E → vs.length = ps.length)
    (hbody : ∀ (f : Addr) (cdv : Value) (A : Around) (outer : List Env) (s : Shared) (H : Hp) (vs : List V) (Q : VK) (E : XK), Room k (A.deeper (envOfC q (defScope st) s.heap.objs.size f cdv)) → sp vs H Q E →
      ∃ t, PSs (cxOf CX P w K mg base N q (defScope st) f cdv A outer s H E) (defBody st) t ∧ t { nx := fun _ H' => Q .non H', rt := Q } (start N vs) H) : Me P w K mg base CX (k + 1) C m sp := by
  obtain ⟨f, fd, e, F⟩ := D
  exact ⟨f, c, e, fnr_X F S hb len (hbody f)⟩
theorem Df.mono {j : Nat} (D : Df P w K mg base CX j x sp) (h : j ≤ k) : Df P w K mg base CX k x sp := by
  obtain ⟨f, a, b, c⟩ := D
  exact ⟨f, a, b, c.mono h⟩
theorem Me.mono {j : Nat} (D : Me P w K mg base CX j C m sp) (h : j ≤ k) : Me P w K mg base CX k C m sp := by
  obtain ⟨f, a, b, c⟩ := D
  exact ⟨f, a, b, c.mono h⟩
end
def tD (sp : Sp) (E : XK) (t : TA) : TE := fun σ H Q => t σ H fun vs H1 => sp vs H1 Q E
def tM (C : Addr) (m : Str) (sp : Sp) (E : XK) (ta : TE) (t : TA) : TE := fun σ H Q => ta σ H fun x H1 => ∃ a dx fs, x = .ref a ∧ H1 a = some (.ins C dx fs) ∧ fs.lookup m = none ∧ t σ H1 fun vs H2 => sp (x :: vs) H2 Q E
section
variable {X : Cx} {CX : CXT} {k : Nat} {sp : Sp} {E : XK} {x m : Str} {e o : Expr} {es : List Expr} {t : TA} {ta : TE} {p pos apos : Pos} {C : Addr}
theorem run_D {f : Addr} {pins : List (Addr × Obj)} {σ : L2.St} {H : Hp} {s : Shared} {Q : VK} {us : List Value} {vs : List V} (F : FnR X.prog X.w X.K X.mg X.base CX k f sp) (hr : Room k X.A) (hx : Passes CX X E) (I : Inv X pins σ H s) (r : Vals vs us)
    (h : sp vs H Q E) : wpAny (model X.prog X.w) X.A (call (.ref f) us) (EP X pins σ Q) X.xe s := wpAny_call (run_fnR F hr hx I r h)
/-- x(e, ..), x a def of the module -/
theorem pe_D (D : Df X.prog X.w X.K X.mg X.base CX k x sp) (hr : Room k X.A) (hg : Gl X x) (hx : Passes CX X E) (ha : PA X (e :: es) t) (hdb : (x == ("__debug__" : Str)) = false := by decide)
    (he : starEach (e :: es) X.env = (false, eval e X.env) :: starEach es X.env := by rfl) (hpl : (backTo pos (starEach es X.env)).any (·.1) = false := by rfl) : PE X (.Call (.Name x p) (e :: es) [] pos) (tD sp E t) := by
  obtain ⟨f, hm, hk, F⟩ := D
  refine ⟨fun pins s σ H Q I h => ?_⟩
  refine wpAny_Call_Name_kw (ld_glob I hg hm ?_ hdb)
  refine PySem.W.callWith_K (h₀ := X.base) I.ok.mod.kin hk (thn (ha.run pos pins s σ H _ I h) fun us s1 ⟨vs, H1, I1, r, q⟩ => ⟨I1.kIn, ?_⟩) he hpl
  exact run_D F hr hx I1 r q
/-- o.m(e, ..) -/
theorem pe_M (he : PE X o ta) (D : Me X.prog X.w X.K X.mg X.base CX k C m sp) (hr : Room k X.A) (hx : Passes CX X E) (ha : PA X (e :: es) t) {pl : Sem Bool}
    (hst : starEach (e :: es) X.env = (false, eval e X.env) :: starEach es X.env := by rfl) (hpl : (backTo pos (starEach es X.env)).any (·.1) = false := by rfl)
    (ht : eval (.Call (.Attribute o m apos) (e :: es) [] pos) X.env = (do
      let ov ← eval o X.env
      standAt apos.atName
      let (f, first) ← holding [ov] (getMethod ov m pl)
      callWith pos f first (backTo pos (starEach (e :: es) X.env)) (backToKw pos (keywordEach [] X.env))) := by rfl) : PE X (.Call (.Attribute o m apos) (e :: es) [] pos) (tM C m sp E ta t) := by
  obtain ⟨f, c, hm, F⟩ := D
  exact pe_methR he c hm F hr hx ha hst hpl ht
/-- o.m() -/
theorem pe_M0 (he : PE X o ta) (D : Me X.prog X.w X.K X.mg X.base CX k C m sp) (hr : Room k X.A) (hx : Passes CX X E) {pl : Sem Bool}
    (ht : eval (.Call (.Attribute o m apos) [] [] pos) X.env = (do
      let ov ← eval o X.env
      standAt apos.atName
      let (f, first) ← holding [ov] (getMethod ov m pl)
      callWith pos f first (backTo pos (starEach [] X.env)) (backToKw pos (keywordEach [] X.env))) := by rfl) : PE X (.Call (.Attribute o m apos) [] [] pos) (tM C m sp E ta tNil) := by
  obtain ⟨f, c, hm, F⟩ := D
  refine ⟨fun pins s σ H Q I h => ?_⟩
  refine PySem.W.methodCall_KW (pl := pl) (thn (he.run pins s σ H _ I h) fun u s1 ⟨x, H1, I1, rx, a, dx, fs, ex, ea, l, q⟩ => ?_) ht
  subst ex
  obtain rfl : u = Value.ref a := rx
  refine getmeth_ok I1 ea c hm l ?_
  exact PySem.W.callWith_K0 (first := [.ref a]) I1.kIn hm.kp (run_D (us := [.ref a]) (vs := [.ref a]) F hr hx I1 (.cons rfl .nil) q)
/-- X(e, ..), X a class of the module -/
theorem pe_Mk (D : Mkr X.prog X.w X.K X.mg X.base CX k x C sp) (hr : Room (k + 1) X.A) (hg : Gl X x) (hx : Passes CX X E) (ha : PA X (e :: es) t) (hdb : (x == ("__debug__" : Str)) = false := by decide)
    (he : starEach (e :: es) X.env = (false, eval e X.env) :: starEach es X.env := by rfl) (hpl : (backTo pos (starEach es X.env)).any (·.1) = false := by rfl) : PE X (.Call (.Name x p) (e :: es) [] pos) (StX.tMakeR C sp E t) := by
  obtain ⟨f, hm, M, F⟩ := D
  exact StX.pe_makeR M F hr hg hm hx ha hdb he hpl
end
end L2.Jw
set_option Elab.async false
set_option linter.all false
set_option maxRecDepth 100000
set_option maxHeartbeats 4000000
namespace L2.Jw
open PySem PySem.Spec PyProof.Rows
/-! ## the mirror: what the defs compute, in plain words -/
/-- the last of the rows that begins at most at place -/
def rowAt (place : Int) : Int × Int → List (Int × Int) → Int × Int
  | r, [] => r
  | r, q :: rows => if q.1 ≤ place then rowAt place q rows else rowAt place r rows
def liftF (N : Int) (rows : List (Int × Int)) (x : Int) : Int :=
  let r0 := rows.headD (0, 0)
  let lp : Int × Int := if x % N < r0.1 then (x / N - 1, x % N + N) else (x / N, x % N)
  let r := rowAt lp.2 r0 rows
  lp.1 * N + r.1 + (r.2 - r.1) % N
/-- a good table of rows on a round of N places -/
structure GoodRows (N : Int) (rows : List (Int × Int)) : Prop where
  lo : 1 ≤ rows.length
  hi : rows.length ≤ 12
  bnd : ∀ r ∈ rows, 0 ≤ r.1 ∧ r.1 < N ∧ 0 ≤ r.2 ∧ r.2 < N
  asc : ∀ i a b, rows[i]? = some a → rows[i + 1]? = some b → a.1 < b.1
  fit : ∀ i a, rows[i]? = some a → a.1 + (a.2 - a.1) % N < (match rows[i + 1]? with | some b => b.1 | none => (rows.headD (0, 0)).1 + N)
def leP (a b : Int × Int) : Bool := decide (a.1 < b.1 ∨ (a.1 = b.1 ∧ a.2 ≤ b.2))
def turnRows (N : Int) (rows : List (Int × Int)) (by_ : Int) : List (Int × Int) := (rows.map fun r => ((r.1 + by_) % N, (r.2 + by_) % N)).mergeSort leP
/-- the least step that turns the rows into themselves -/
structure PeriodOf (N : Int) (rows : List (Int × Int)) (p : Int) : Prop where
  pos : 1 ≤ p
  le : p ≤ N
  dvd : N % p = 0
  fix : turnRows N rows p = rows ∨ p = N
  least : ∀ s : Int, 1 ≤ s → s < p → N % s = 0 → turnRows N rows s ≠ rows
/-! ### the game's data -/
structure Kd where
  land : List Int
  gap : List Int
  span : Int
  deriving Inhabited
structure Wd where
  N : Int
  ks : List Kd
abbrev Pr := Int × Int
abbrev Rl := Int × Str
abbrev Tb := List (Str × List Rl)
/-- a world as the program's parts make it -/
structure WOk (W : Wd) : Prop where
  n1 : 2 ≤ W.N
  n2 : W.N ≤ 48
  k1 : 1 ≤ W.ks.length
  k3 : W.ks.length ≤ 3
  ll : ∀ k ∈ W.ks, (k.land.length : Int) = W.N
  lb : ∀ k ∈ W.ks, ∀ y ∈ k.land, 0 ≤ y ∧ y < W.N
  few : ∀ k ∈ W.ks, ∃ l : List Int, l.length ≤ 4 ∧ ∀ y ∈ k.land, y ∈ l
  gl : ∀ k ∈ W.ks, (k.gap.length : Int) = W.N
  gb : ∀ k ∈ W.ks, ∀ y ∈ k.gap, 0 ≤ y ∧ y ≤ 1000000000000
  sp : ∀ k ∈ W.ks, 0 < k.span
def inW (W : Wd) (p : Pr) : Prop := 0 ≤ p.1 ∧ p.1 < W.ks.length ∧ 0 ≤ p.2 ∧ p.2 < W.N
def kdOf (W : Wd) (k : Int) : Kd := W.ks.getD k.toNat ⟨[], [], 1⟩
def landF (W : Wd) (p : Pr) (t : Int) : Int := (kdOf W p.1).land.getD ((p.2 - t) % W.N).toNat 0
/-- the pair behind a squeeze, the width that it shows -/
def sqF (W : Wd) (p : Pr) (t : Int) : Pr × Int := ((p.1, landF W p t), (kdOf W p.1).gap.getD (landF W p t).toNat 0)
def allP (W : Wd) : List Pr := (List.range W.ks.length).flatMap fun k : Nat => (List.range W.N.toNat).map fun x : Nat => ((k : Int), (x : Int))
def dd {α : Type} [DecidableEq α] : List α → List α
  | [] => []
  | x :: l => if x ∈ dd l then dd l else x :: dd l
/-- sorted and without doubles -/
def canon (l : List Pr) : List Pr := (dd l).mergeSort leP
def canonI (l : List Int) : List Int := (dd l).mergeSort fun a b => decide (a ≤ b)
def widF (W : Wd) (ps : List Pr) (t : Int) : List Int := canonI (ps.map fun p => (sqF W p t).2)
def behF (W : Wd) (ps : List Pr) (t w : Int) : List Pr := ((ps.filter fun p => decide ((sqF W p t).2 = w)).map fun p => (sqF W p t).1)
def partF (W : Wd) (ps : List Pr) (t : Int) : List (Int × List Pr) := (widF W ps t).map fun w => (w, canon (behF W ps t w))
/-- told: one kind, and where it is asked one place but for the span -/
def toldF (W : Wd) (settled : Bool) (ps : List Pr) : Bool := ps.all fun p => decide (p.1 = (ps.headD (0, 0)).1) && (!settled || decide ((p.2 - (ps.headD (0, 0)).2) % (kdOf W (ps.headD (0, 0)).1).span = 0))
def rulesF (tb : Tb) (st : Str) : List Rl := (tb.lookup st).getD []
abbrev Brs := List (Int × List (Int × Lot))
def brF (W : Wd) (tb : Tb) (st : Str) (ps : List Pr) : Brs := (rulesF tb st).map fun r => (r.1, (partF W ps r.1).map fun q => (q.1, (r.2, q.2)))
def maxL : List Int → Int
  | [] => 0
  | [x] => x
  | x :: y :: l => max x (maxL (y :: l))
def minL : List Int → Int
  | [] => 0
  | [x] => x
  | x :: y :: l => min x (minL (y :: l))
def worstF (wv : Lot → Option Int) (lots : List (Int × Lot)) (m : Int) : Int := maxL (lots.map fun q => (wv q.2).getD m)
def leastF (wv : Lot → Option Int) (b : Brs) (m : Int) : Int := if b = [] then m + 1 else minL (b.map fun c => 1 + worstF wv c.2 m)
/-! ### the logs -/
abbrev Tri := Int × Int × Int
def stillF (W : Wd) (l : List Tri) (t w : Int) : List Tri := l.filterMap fun x => if (sqF W (x.1, x.2.2) t).2 = w then some (x.1, x.2.1, landF W (x.1, x.2.2) t) else none
def triP (W : Wd) : List Tri := (allP W).map fun p => (p.1, p.2, p.2)
def fitL (W : Wd) : Int → List Tri → List (Int × Int) → List Tri
  | _, l, [] => l
  | last, l, (t, w) :: log => fitL W t (stillF W l (t - last) w) log
def fitsF (W : Wd) (log : List (Int × Int)) : List Pr := (fitL W 0 (triP W) log).map fun x => (x.1, x.2.1)
end L2.Jw
set_option Elab.async false
set_option linter.all false
set_option maxRecDepth 100000
set_option maxHeartbeats 4000000
namespace L2.Jw
open PySem PySem.Spec PyProof.Rows
/-- all that stands in H but what stands at D stands as before -/
def But (D : Addr) (H H' : Hp) : Prop := ∀ b o, H b = some o → b ≠ D → H' b = some o
theorem but_upd {D : Addr} {H : Hp} {o : HO} : But D H (upd H D o) := fun b u h hb => by rw [upd_ne hb]; exact h
theorem _root_.L2.Same.but {D : Addr} {H H' : Hp} (e : Same H H') : But D H H' := fun b u h _ => e b u h
theorem But.trans {D : Addr} {H H1 H2 : Hp} (a : But D H H1) (b : But D H1 H2) : But D H H2 := fun c u h hc => b c u (a c u h hc) hc
theorem But.same {D : Addr} {H H1 H' : Hp} (a : But D H1 H') (e : Same H H1) (hn : H D = none) : Same H H' := fun c u h => a c u (e c u h) (ne_of_none h hn)
theorem same_updN {H H1 : Hp} {p : Addr} {o : HO} (e : Same H H1) (hn : H1 p = none) : Same H (upd H1 p o) := e.trans (same_new hn)
theorem same_updO {H H1 : Hp} {p : Addr} {o : HO} (e : Same H H1) (hn : H p = none) : Same H (upd H1 p o) := but_upd.same e hn
theorem but_sqT {K : PySem.W.Frag} {D a : Addr} {H H' : Hp} {xs acc : List V} (e : But D H H') (hD : H D = some (.lst acc)) (h : SqT K H a xs) : SqT K H' a xs := by
  rcases h with (h | ⟨o, h⟩) | h
  · exact .inl (.inl (e _ _ h fun z => by rw [z, hD] at h; cases h))
  · exact .inl (.inr ⟨o, e _ _ h fun z => by rw [z, hD] at h; cases h⟩)
  · exact .inr h
theorem But.tkeep {K : PySem.W.Frag} {D : Addr} {H H' : Hp} {acc : List V} (e : But D H H') (hD : H D = some (.lst acc)) : TKeep K H H' := fun _ _ h => but_sqT e hD h
theorem fm_succ {α : Type} (kept : Nat → Option α) (i : Nat) : (List.range (i + 1)).filterMap kept = (List.range i).filterMap kept ++ (kept i).toList := by
  rw [List.range_succ, List.filterMap_append]
  cases h : kept i with
  | none => simp [h]
  | some a => simp [h]
theorem Paired.len {α β : Type} {F : α → β → Prop} : ∀ {xs : List α} {ys : List β}, Paired F xs ys → xs.length = ys.length
  | _, _, .nil => rfl
  | _, _, .cons _ t => congrArg Nat.succ (Paired.len t)
section
variable {J : It} {n : Nat} {G : Hp → Prop} {Y : Nat → Hp → V → Hp → Prop}
/-- a list comprehension that changes nothing that stood: what it keeps of the i-th turn is told by kept -/
theorem lc_fm {α : Type} (w : Walk J n G Y) {g : TG} {tt : TT} {te : TE} {vs : List Nat} {σ : L2.St} {H1 : Hp} {D : Addr} {Qd : Hp → Prop} (kept : Nat → Option α) (R : α → V → Hp → Prop) (hD : H1 D = none) (hG : ∀ H, Same H1 H → G H) (hn : n ≤ 1000000)
    (hR : ∀ a y H H' acc, H D = some (.lst acc) → But D H H' → R a y H → R a y H')
    (hs : ∀ i x H H' (Cy : V → Hp → Prop) (Cn : Hp → Prop), i < n → Same H1 H → Y i H x H' → (∀ a y H4, kept i = some a → Same H H4 → R a y H4 → Cy y H4) → (kept i = none → ∀ H3, Same H H3 → Cn H3) →
      g x (wipe σ vs) H' fun σ2 H2 => wipe σ2 vs = wipe σ vs ∧ tt σ2 H2 fun b H3 => if b = true then te σ2 H3 Cy else Cn H3)
    (hd : ∀ H acc, Same H1 H → H D = some (.lst acc) → Paired (fun a y => R a y H) ((List.range n).filterMap kept) acc → Qd H) :
    ∃ W : Nat → Nat → Hp → Prop, (∃ m, W 0 m (upd H1 D (.lst []))) ∧ ∀ i m H, W i m H →
      (J.stop i H ∧ Qd H) ∨ (J.go i H ∧ ∃ Nx : Hp → Prop, (∀ H', Nx H' → ∃ m', m' < m ∧ W (i + 1) m' H') ∧ ∀ x H', J.yld i H x H' → g x (wipe σ vs) H' fun σ2 H2 => wipe σ2 vs = wipe σ vs ∧ tt σ2 H2 fun b H3 =>
        if b = true then te σ2 H3 fun y H4 => ∃ acc, H4 D = some (.lst acc) ∧ acc.length < sizeLine ∧ Nx (upd H4 D (.lst (acc ++ [y]))) else Nx H3) := by
  refine lc_it w (fun i H => Same H1 H ∧ ∃ acc, H D = some (.lst acc) ∧ acc.length ≤ i ∧ Paired (fun a y => R a y H) ((List.range i).filterMap kept) acc) ⟨same_updN (Same.refl _) hD, [], upd_same, Nat.le_refl _, .nil⟩ (fun i H _ p => hG H p.1) (fun i x H H' hi p y => ?_) fun H p => ?_
  · obtain ⟨e, acc, hacc, hl, hp⟩ := p
    refine hs i x H H' _ _ hi e y (fun a z H4 hk e4 r => ?_) (fun hk H3 e3 => ?_)
    · refine ⟨acc, e4 _ _ hacc, Nat.lt_of_le_of_lt hl (Nat.lt_of_lt_of_le hi (Nat.le_trans hn (by decide))), same_updO (e.trans e4) hD, acc ++ [z], upd_same, by rw [List.length_append]; exact Nat.succ_le_succ hl, ?_⟩
      rw [fm_succ, hk]
      exact paired_snoc (Paired.mapP hp fun _ _ q => hR _ _ _ _ acc hacc (e4.but.trans but_upd) q) (hR _ _ _ _ acc (e4 _ _ hacc) but_upd r)
    · refine ⟨e.trans e3, acc, e3 _ _ hacc, Nat.le_succ_of_le hl, ?_⟩
      rw [fm_succ, hk]
      show Paired _ (_ ++ []) acc
      rw [List.append_nil]
      exact Paired.mapP hp fun _ _ q => hR _ _ _ _ acc hacc e3.but q
  · obtain ⟨e, acc, hacc, hl, hp⟩ := p
    exact hd H acc e hacc hp
/-- as lc_fm, nothing left out: the i-th is R i -/
theorem lc_mp (w : Walk J n G Y) {g : TG} {tt : TT} {te : TE} {vs : List Nat} {σ : L2.St} {H1 : Hp} {D : Addr} {Qd : Hp → Prop} (R : Nat → V → Hp → Prop) (hD : H1 D = none) (hG : ∀ H, Same H1 H → G H) (hn : n ≤ 1000000)
    (hR : ∀ a y H H' acc, H D = some (.lst acc) → But D H H' → R a y H → R a y H')
    (hs : ∀ i x H H' (Cy : V → Hp → Prop) (Cn : Hp → Prop), i < n → Same H1 H → Y i H x H' → (∀ y H4, Same H H4 → R i y H4 → Cy y H4) →
      g x (wipe σ vs) H' fun σ2 H2 => wipe σ2 vs = wipe σ vs ∧ tt σ2 H2 fun b H3 => if b = true then te σ2 H3 Cy else Cn H3)
    (hd : ∀ H acc, Same H1 H → H D = some (.lst acc) → Paired (fun a y => R a y H) (List.range n) acc → Qd H) :
    ∃ W : Nat → Nat → Hp → Prop, (∃ m, W 0 m (upd H1 D (.lst []))) ∧ ∀ i m H, W i m H →
      (J.stop i H ∧ Qd H) ∨ (J.go i H ∧ ∃ Nx : Hp → Prop, (∀ H', Nx H' → ∃ m', m' < m ∧ W (i + 1) m' H') ∧ ∀ x H', J.yld i H x H' → g x (wipe σ vs) H' fun σ2 H2 => wipe σ2 vs = wipe σ vs ∧ tt σ2 H2 fun b H3 =>
        if b = true then te σ2 H3 fun y H4 => ∃ acc, H4 D = some (.lst acc) ∧ acc.length < sizeLine ∧ Nx (upd H4 D (.lst (acc ++ [y]))) else Nx H3) :=
  lc_fm w (fun i => some i) R hD hG hn hR (fun i x H H' Cy Cn hi e y h1 _ => hs i x H H' Cy Cn hi e y fun z H4 e4 r => h1 i z H4 rfl e4 r) fun H acc e ha hp => hd H acc e ha (by rw [List.filterMap_some] at hp; exact hp)
/-- a dict comprehension over it, by an invariant -/
theorem dc_it (w : Walk J n G Y) {g : TG} {tt : TT} {tk tv : TE} {vs : List Nat} {σ : L2.St} {H1 : Hp} {D : Addr} {Qd : Hp → Prop} (Pv : Nat → Hp → Prop) (h0 : Pv 0 (upd H1 D (.dK []))) (hG : ∀ i H, i ≤ n → Pv i H → G H)
    (hs : ∀ i x H H', i < n → Pv i H → Y i H x H' → g x (wipe σ vs) H' fun σ2 H2 => wipe σ2 vs = wipe σ vs ∧ tt σ2 H2 fun b H3 =>
      if b = true then tk σ2 H3 fun y H4 => tv σ2 H4 fun z H5 => ∃ kvs k, y = kV k ∧ H5 D = some (.dK kvs) ∧ kvs.length < sizeLine ∧ Pv (i + 1) (upd H5 D (.dK (putK kvs k z))) else Pv (i + 1) H3) (hd : ∀ H, Pv n H → Qd H) :
    ∃ W : Nat → Nat → Hp → Prop, (∃ m, W 0 m (upd H1 D (.dK []))) ∧ ∀ i m H, W i m H →
      (J.stop i H ∧ Qd H) ∨ (J.go i H ∧ ∃ Nx : Hp → Prop, (∀ H', Nx H' → ∃ m', m' < m ∧ W (i + 1) m' H') ∧ ∀ x H', J.yld i H x H' → g x (wipe σ vs) H' fun σ2 H2 => wipe σ2 vs = wipe σ vs ∧ tt σ2 H2 fun b H3 =>
        if b = true then tk σ2 H3 fun y H4 => tv σ2 H4 fun z H5 => ∃ kvs k, y = kV k ∧ H5 D = some (.dK kvs) ∧ kvs.length < sizeLine ∧ Nx (upd H5 D (.dK (putK kvs k z))) else Nx H3) := by
  refine ⟨fun i m H => m = n - i ∧ i ≤ n ∧ Pv i H, ⟨n, by simp, Nat.zero_le _, h0⟩, ?_⟩
  rintro i m H ⟨rfl, hi, p⟩
  have q := hG i H hi p
  by_cases hlt : i < n
  · exact .inr ⟨w.goes i H hlt q, Pv (i + 1), fun H' p' => ⟨n - (i + 1), by omega, rfl, hlt, p'⟩, fun x H' y => hs i x H H' hlt p (w.yields i H x H' hlt q y)⟩
  · have e : i = n := by omega
    subst e
    exact .inl ⟨w.stops H q, hd H p⟩
end
end L2.Jw
set_option Elab.async false
set_option linter.all false
set_option maxRecDepth 100000
set_option maxHeartbeats 4000000
namespace L2.Jw
open PySem PySem.Spec PyProof.Rows
/-! ## what the walks ask of the top -/
structure Cs where
  Tu : Addr
  Pa : Addr
  Le : Addr
  Ja : Addr
  Ga : Addr
  TM : Addr
  WO : Addr
def PrAt (K : PySem.W.Frag) (C : Addr) (m q : Str) (st : Stmt) : Prop := ∃ p g fd, PropOf K C m p g ∧ FnP K m q st [] [] g fd
def MkAt (K : PySem.W.Frag) (C : Addr) (q : Str) (st : Stmt) (dv : List V) : Prop := ∃ f fd, Mk K C f ∧ FnP K "__init__" q st dv [] f fd
structure Tx (K : PySem.W.Frag) (mg : Str → Option Value) (c : Cs) : Prop where
  isinstance : mg "isinstance" = none
  len : mg "len" = none
  enumerate : mg "enumerate" = none
  tuple : mg "tuple" = none
  sorted : mg "sorted" = none
  range : mg "range" = none
  divmod : mg "divmod" = none
  list : mg "list" = none
  int : mg "int" = none
  bool : mg "bool" = none
  str : mg "str" = none
  dict : mg "dict" = none
  any : mg "any" = none
  all : mg "all" = none
  set : mg "set" = none
  min : mg "min" = none
  max : mg "max" = none
  lcm : mg "lcm" = some (.builtin "math.lcm")
  MOST_ROUND : ∃ t, mg "MOST_ROUND" = some (.int 360 t)
  MOST_ROWS_turnings : ∃ t, mg "MOST_ROWS_turnings" = some (.int 12 t)
  MOST_WIDTH : ∃ t, mg "MOST_WIDTH" = some (.int 1000000000000 t)
  MOST_STATES : ∃ t, mg "MOST_STATES" = some (.int 5 t)
  MOST_RULES : ∃ t, mg "MOST_RULES" = some (.int 40 t)
  MOST_ROWS_walks : ∃ t, mg "MOST_ROWS_walks" = some (.int 600 t)
  MOST_LOG : ∃ t, mg "MOST_LOG" = some (.int 40 t)
  MOST_SQUEEZES : ∃ t, mg "MOST_SQUEEZES" = some (.int 12 t)
  START : ∃ t, mg "START" = some (.str "start" t)
  LETTERS : ∃ t, mg "LETTERS" = some (.str "abcdefghijklmnopqrstuvwxyz" t)
  WORDS : mg "WORDS" = some (.ref c.WO)
  words : ∀ H, SqT K H c.WO [.str "push", .str "squeeze"]
  D_is_integer : DefAt K mg "is_integer" (top 18)
  D_is_row : DefAt K mg "is_row" (top 19)
  D_is_place : DefAt K mg "is_place" (top 20)
  D_check_round : DefAt K mg "check_round" (top 21)
  D_is_pair : DefAt K mg "is_pair" (top 22)
  D_checked_rows : DefAt K mg "checked_rows" (top 23)
  D_rows_turned : DefAt K mg "rows_turned" (top 24)
  D_least_period : DefAt K mg "least_period" (top 25)
  D_is_word : DefAt K mg "is_word" (top 29)
  D_checked_widths : DefAt K mg "checked_widths" (top 30)
  D_check_even : DefAt K mg "check_even" (top 31)
  D_is_name : DefAt K mg "is_name" (top 39)
  D_is_rule : DefAt K mg "is_rule" (top 40)
  D_checked_rules : DefAt K mg "checked_rules" (top 41)
  D_check_kinds : DefAt K mg "check_kinds" (top 45)
  D_check_shown : DefAt K mg "check_shown" (top 49)
  D_check_log : DefAt K mg "check_log" (top 51)
  D_still_fitting : DefAt K mg "still_fitting" (top 52)
  D_fitting : DefAt K mg "fitting" (top 53)
  D_fits : DefAt K mg "fits" (top 54)
  D_checked_jaws : DefAt K mg "checked_jaws" (top 55)
  D__law_pool : DefAt K mg "_law_pool" (top 59)
  D__law_draw : DefAt K mg "_law_draw" (top 60)
  D__law_laps : DefAt K mg "_law_laps" (top 61)
  D__law_rows : DefAt K mg "_law_rows" (top 62)
  D__law_shown : DefAt K mg "_law_shown" (top 66)
  D__law_shown_part : DefAt K mg "_law_shown_part" (top 67)
  D__law_rules : DefAt K mg "_law_rules" (top 69)
  D__law_handed : DefAt K mg "_law_handed" (top 71)
  D__law_worst : DefAt K mg "_law_worst" (top 72)
  D__law_tree : DefAt K mg "_law_tree" (top 73)
  D__law_more : DefAt K mg "_law_more" (top 74)
  D__law_ways : DefAt K mg "_law_ways" (top 75)
  mg_Tu : mg "Turning" = some (.ref c.Tu)
  cl_Tu : Cls K c.Tu
  n_Tu_around : NoAttr K c.Tu "around"
  n_Tu_rows : NoAttr K c.Tu "rows"
  n_Tu__period : NoAttr K c.Tu "_period"
  mg_Pa : mg "Part" = some (.ref c.Pa)
  cl_Pa : Cls K c.Pa
  n_Pa_around : NoAttr K c.Pa "around"
  n_Pa__shown : NoAttr K c.Pa "_shown"
  n_Pa__turnings : NoAttr K c.Pa "_turnings"
  mg_Le : mg "Let" = some (.ref c.Le)
  cl_Le : Cls K c.Le
  n_Le_around : NoAttr K c.Le "around"
  n_Le__table : NoAttr K c.Le "_table"
  mg_Ja : mg "Jaws" = some (.ref c.Ja)
  cl_Ja : Cls K c.Ja
  n_Ja_ring : NoAttr K c.Ja "ring"
  n_Ja_lands : NoAttr K c.Ja "lands"
  n_Ja_gaps : NoAttr K c.Ja "gaps"
  n_Ja_spans : NoAttr K c.Ja "spans"
  mg_Ga : mg "Game" = some (.ref c.Ga)
  cl_Ga : Cls K c.Ga
  n_Ga_jaws : NoAttr K c.Ga "jaws"
  n_Ga_let : NoAttr K c.Ga "let"
  n_Ga_strict : NoAttr K c.Ga "strict"
  n_Ga_choices : NoAttr K c.Ga "choices"
  n_Ga_worth : NoAttr K c.Ga "worth"
  n_Ga_begins_told : NoAttr K c.Ga "begins_told"
  n_Ga_opening : NoAttr K c.Ga "opening"
  M_Tu_lifted : MetAt K c.Tu "lifted" "Turning.lifted" (inC 26 5)
  M_Tu_is_even : MetAt K c.Tu "is_even" "Turning.is_even" (inC 26 9)
  M_Le_rules : MetAt K c.Le "rules" "Let.rules" (inC 42 4)
  M_Ja_all_pairs : MetAt K c.Ja "all_pairs" "Jaws.all_pairs" (inC 50 1)
  M_Ja_squeezed : MetAt K c.Ja "squeezed" "Jaws.squeezed" (inC 50 2)
  M_Ja_parted : MetAt K c.Ja "parted" "Jaws.parted" (inC 50 3)
  M_Ja_is_told : MetAt K c.Ja "is_told" "Jaws.is_told" (inC 50 4)
  M_Ga_branches : MetAt K c.Ga "branches" "Game.branches" (inC 56 1)
  M_Ga_collect : MetAt K c.Ga "collect" "Game.collect" (inC 56 2)
  M_Ga_worst : MetAt K c.Ga "worst" "Game.worst" (inC 56 3)
  M_Ga_weigh : MetAt K c.Ga "weigh" "Game.weigh" (inC 56 4)
  M_Ga_least : MetAt K c.Ga "least" "Game.least" (inC 56 5)
  M_Ga_tree : MetAt K c.Ga "tree" "Game.tree" (inC 56 6)
  M_Ga_number : MetAt K c.Ga "number" "Game.number" (inC 56 7)
  P_Tu_period : PrAt K c.Tu "period" "Turning.period" (inC 26 2)
  P_Pa_words : PrAt K c.Pa "words" "Part.words" (inC 32 1)
  P_Pa_period : PrAt K c.Pa "period" "Part.period" (inC 32 2)
  P_Pa_widths : PrAt K c.Pa "widths" "Part.widths" (inC 32 3)
  P_Le_words : PrAt K c.Le "words" "Let.words" (inC 42 2)
  I_Tu : MkAt K c.Tu "Turning.__init__" (inC 26 0) []
  I_Pa : MkAt K c.Pa "Part.__init__" (inC 32 0) [.non, .non, .non]
  I_Le : MkAt K c.Le "Let.__init__" (inC 42 0) []
  I_Ja : MkAt K c.Ja "Jaws.__init__" (inC 50 0) []
  I_Ga : MkAt K c.Ga "Game.__init__" (inC 56 0) []
  getP : ∃ g fd, GetO K c.Pa g ∧ FnP K "__getitem__" "Part.__getitem__" (inC 32 5) [] [] g fd
  callT : ∃ g fd, StX.CallO K c.Tu g ∧ FnP K "__call__" "Turning.__call__" (inC 26 6) [] [] g fd
  isPa : PySem.W.findIn K (.ref c.Pa) "__class__" = some (some (.builtin "object.__class__"))
  isPh : PySem.W.specialIn K (.builtin "object.__class__") "__get__" = some (some (.builtin "getset_descriptor.__get__"))
  isPt : PySem.W.takesIn K (.builtin "object.__class__") = some true
  isPm : PySem.W.mroIn K c.Pa (.type "object") = some true
  mg_TM : mg "TooMany" = some (.ref c.TM)
  tell : ∃ f fd, mg "tell" = some (.ref f) ∧ FunD K "tell" "tell" (defArgs (top 57)) (defBody (top 57)) (defScope (top 57)) [] [("most", .int 12), ("settled", .bl false)] f fd
  ex : OexC K c.TM
  exI : ∃ fI fd, PySem.W.findIn K (.ref c.TM) "__init__" = some (some (.ref fI)) ∧ PySem.W.typeIn K (.ref fI) = some (.type "function") ∧ FnP K "__init__" "TooMany.__init__" (inC 13 0) [] [] fI fd
  exL : PySem.W.findIn K (.ref c.TM) "limit" = some none
  exM : PySem.W.exmOne K (.ref c.TM) (.ref c.TM) = some true
section
variable {X : Cx}
/-- a module's whole number -/
theorem pe_gI {x : Str} {i : Int} {pos : Pos} (hg : Gl X x) (h : ∃ t, X.mg x = some (.int i t)) (hd : (x == ("__debug__" : Str)) = false := by decide) : PE X (.Name x pos) (tC (.int i)) := by
  obtain ⟨t, e⟩ := h
  exact pe_glob hg e ⟨_, rfl⟩ hd
theorem pe_gS {x : Str} {i : Str} {pos : Pos} (hg : Gl X x) (h : ∃ t, X.mg x = some (.str i t)) (hd : (x == ("__debug__" : Str)) = false := by decide) : PE X (.Name x pos) (tC (.str i)) := by
  obtain ⟨t, e⟩ := h
  exact pe_glob hg e ⟨_, rfl⟩ hd
theorem pe_gR {x : Str} {a : Addr} {pos : Pos} (hg : Gl X x) (h : X.mg x = some (.ref a)) (hd : (x == ("__debug__" : Str)) = false := by decide) : PE X (.Name x pos) (tC (.ref a)) := pe_glob hg h rfl hd
/-- a built-in class as a value -/
theorem pe_tyN (n : String) {x : Str} {pos : Pos} (hg : Gl X x) (hm : X.mg x = none) (hv : bootBuiltins x = some (.type n)) (hn : x ≠ "__name__" := by decide) (hd : (x == ("__debug__" : Str)) = false := by decide) : PE X (.Name x pos) (tC (.ty n)) := pe_bltn hg hm hv rfl hn hd
/-- e.f, a property -/
theorem pe_P {C : Addr} {m : Str} {k : Nat} {sp : Sp} {e : Expr} {pos : Pos} {ta : TE} (he : PE X e ta) (c : Cls X.K C)
    (D : ∃ p g fd, PropOf X.K C m p g ∧ FnOk X.prog X.w X.K X.mg X.base CX0 k g fd ["self"] sp ∧ Binds X.K fd ["self"] []) (hr : Room (k + 1) X.A)
    (hab : attributeBase e m X.env (eval e X.env) = eval e X.env := by rfl) : PE X (.Attribute e m pos) (tProp C sp [] E0 ta) := by
  obtain ⟨p, g, fd, hp, F, hb⟩ := D
  exact pe_prop he c hp F hr hb .nil (fun _ _ _ _ _ _ _ h => h.elim) hab
end
end L2.Jw
set_option Elab.async false
set_option linter.all false
set_option maxRecDepth 100000
set_option maxHeartbeats 4000000
namespace L2.Jw
open PySem PySem.Spec PyProof.Rows
section
variable {P : Program} {w : World} {K : PySem.W.Frag} {mg : Str → Option Value} {base : Heap} {c : Cs}
theorem tyx_lst {H : Hp} {a : Addr} {xs : List V} (h : H a = some (.lst xs)) : TyX K H (.ref a) (.type "list") := .base (.lst h)
theorem tyx_tup {H : Hp} {a : Addr} {xs : List V} (h : SqT K H a xs) : TyX K H (.ref a) (.type "tuple") := by
  rcases h with (h | ⟨o, h⟩) | ⟨o, its, n, e, hc, _⟩
  · exact .base (.tup h)
  · exact .fTuple h
  · exact .kTuple e hc
theorem atI0 {α : Type} {x : α} {xs : List α} : atI (x :: xs) 0 = some x := atI_nat (j := 0) rfl
theorem atI1 {α : Type} {x y : α} {xs : List α} : atI (x :: y :: xs) 1 = some y := atI_nat (j := 1) rfl
theorem atI2 {α : Type} {x y z : α} {xs : List α} : atI (x :: y :: z :: xs) 2 = some z := atI_nat (j := 2) rfl
theorem blT {p : Prop} [Decidable p] (h : p) : V.bl (decide p) = V.bl true := by rw [decide_eq_true h]
theorem blF {p : Prop} [Decidable p] (h : ¬ p) : V.bl (decide p) = V.bl false := by rw [decide_eq_false h]
theorem qT {Q : V → Hp → Prop} {H : Hp} {p : Prop} [Decidable p] (h : p) (q : Q (.bl true) H) : Q (.bl (decide p)) H := by rw [decide_eq_true h]; exact q
theorem qF {Q : V → Hp → Prop} {H : Hp} {p : Prop} [Decidable p] (h : ¬ p) (q : Q (.bl false) H) : Q (.bl (decide p)) H := by rw [decide_eq_false h]; exact q
theorem itD {p A B : Prop} [Decidable p] (h : p) (a : A) : if decide p = true then A else B := by rw [decide_eq_true h]; exact iteT a
theorem itN {p A B : Prop} [Decidable p] (h : ¬ p) (a : B) : if decide p = true then A else B := by rw [decide_eq_false h]; exact iteF a
theorem inD {p A B : Prop} [Decidable p] (h : p) (a : B) : if (!decide p) = true then A else B := by rw [decide_eq_true h]; exact iteF a
theorem inN {p A B : Prop} [Decidable p] (h : ¬ p) (a : A) : if (!decide p) = true then A else B := by rw [decide_eq_false h]; exact iteT a
/-! ### is_integer -/
def spIsInt : Sp := fun vs H Q _ => ∃ i : Int, vs = [.int i] ∧ Q (.bl true) H
abbrev s_is_integer : Stmt := top 18
theorem c_is_integer : FnScope ["thing"] ["thing"] (defScope s_is_integer) := ⟨rfl, rfl, rfl, by decide +kernel, rfl, by decide +kernel, by decide +kernel⟩
theorem b_is_integer : Bnd0 "is_integer" "is_integer" s_is_integer ["thing"] := fun _ _ _ _ _ _ us hl => match us, hl with | [_], _ => rfl
theorem d_is_integer (T : Tx K mg c) : Df P w K mg base CX0 1 "is_integer" spIsInt := by
  refine df_0 T.D_is_integer c_is_integer b_is_integer (fun vs H Q E h => ?_) fun f cdv A outer s H vs Q E hr h => ?_
  · obtain ⟨i, rfl, _⟩ := h
    rfl
  · obtain ⟨i, rfl, q⟩ := h
    refine ⟨_, (pss_one (ps_ret (pe_and (pe_callB call_isi (by rfl) T.isinstance (by decide +kernel) (pa_cons (pv 0) (pa_cons (pe_tyN "int" (by rfl) T.int (by decide +kernel)) pa_nil))) (pe_one (pe_not (pe_callB call_isi (by rfl) T.isinstance (by decide +kernel) (pa_cons (pv 0) (pa_cons (pe_tyN "bool" (by rfl) T.bool (by decide +kernel)) pa_nil)))))))), ?_⟩
    refine ⟨_, rfl, .int i, .ty "int", _, _, true, rfl, .ty _, .base (.int i), kit_ty (by decide +kernel), true, rfl, ?_⟩
    refine iteT ?_
    exact ⟨_, rfl, .int i, .ty "bool", _, _, false, rfl, .ty _, .base (.int i), kit_ty (by decide +kernel), false, rfl, q⟩
/-! ### is_row: a list -/
def spIsRow : Sp := fun vs H Q _ => ∃ a xs, vs = [.ref a] ∧ H a = some (.lst xs) ∧ (∀ H', Same H H' → Q (.bl true) H')
abbrev s_is_row : Stmt := top 19
theorem c_is_row : FnScope ["thing"] ["thing"] (defScope s_is_row) := ⟨rfl, rfl, rfl, by decide +kernel, rfl, by decide +kernel, by decide +kernel⟩
theorem b_is_row : Bnd0 "is_row" "is_row" s_is_row ["thing"] := fun _ _ _ _ _ _ us hl => match us, hl with | [_], _ => rfl
theorem d_is_row (T : Tx K mg c) : Df P w K mg base CX0 1 "is_row" spIsRow := by
  refine df_0 T.D_is_row c_is_row b_is_row (fun vs H Q E h => ?_) fun f cdv A outer s H vs Q E hr h => ?_
  · obtain ⟨a, xs, rfl, _⟩ := h
    rfl
  · obtain ⟨a, xs, rfl, ha, q⟩ := h
    refine ⟨_, (pss_one (ps_ret (pe_callB call_isiT (by rfl) T.isinstance (by decide +kernel) (pa_cons (pv 0) (pa_cons (pe_tup (pa_cons (pe_tyN "list" (by rfl) T.list (by decide +kernel)) (pa_cons (pe_tyN "tuple" (by rfl) T.tuple (by decide +kernel)) pa_nil))) pa_nil))))), ?_⟩
    refine ⟨_, rfl, (by show 2 ≤ sizeLine; decide), fun p hp => ?_⟩
    have e : Same H (upd H p (.tup [.ty "list", .ty "tuple"])) := same_new hp
    exact ⟨_, p, _, _, _, true, rfl, upd_same, .cons (.ty _) (.cons (.ty _) .nil), tyx_lst (e _ _ ha), kitAny_cons (b := true) (kit_ty (by decide +kernel)) (fun z => by cases z) (fun _ => rfl), q _ e⟩
/-! ### is_place -/
def spIsPlace : Sp := fun vs H Q _ => ∃ i n : Int, vs = [.int i, .int n] ∧ 0 ≤ i ∧ i < n ∧ Q (.bl true) H
abbrev s_is_place : Stmt := top 20
theorem c_is_place : FnScope ["thing", "around"] ["thing", "around"] (defScope s_is_place) := ⟨rfl, rfl, rfl, by decide +kernel, rfl, by decide +kernel, by decide +kernel⟩
theorem b_is_place : Bnd0 "is_place" "is_place" s_is_place ["thing", "around"] := fun _ _ _ _ _ _ us hl => match us, hl with | [_, _], _ => rfl
theorem d_is_place (T : Tx K mg c) : Df P w K mg base CX0 2 "is_place" spIsPlace := by
  refine df_0 T.D_is_place c_is_place b_is_place (fun vs H Q E h => ?_) fun f cdv A outer s H vs Q E hr h => ?_
  · obtain ⟨i, n, rfl, _⟩ := h
    rfl
  · obtain ⟨i, n, rfl, h0, h1, q⟩ := h
    refine ⟨_, (pss_one (ps_ret (pe_and (pe_D (d_is_integer T) (hr.mono (by first | decide | omega)) rfl pass0 (pa_cons (pv 0) pa_nil)) (pe_one (pe_chain op_le op_lt pe_int (pv 0) (pv 1)))))), ?_⟩
    refine ⟨_, rfl, i, rfl, true, rfl, iteT ?_⟩
    refine ⟨_, rfl, _, _, rfl, rfl, true, blT h0, iteT ?_⟩
    exact ⟨_, rfl, _, _, rfl, rfl, qT h1 q⟩
/-! ### check_round -/
def spCheckRound : Sp := fun vs H Q _ => ∃ n : Int, vs = [.int n] ∧ 2 ≤ n ∧ n ≤ 360 ∧ Q .non H
abbrev s_check_round : Stmt := top 21
theorem c_check_round : FnScope ["around"] ["around"] (defScope s_check_round) := ⟨rfl, rfl, rfl, by decide +kernel, rfl, by decide +kernel, by decide +kernel⟩
theorem b_check_round : Bnd0 "check_round" "check_round" s_check_round ["around"] := fun _ _ _ _ _ _ us hl => match us, hl with | [_], _ => rfl
theorem d_check_round (T : Tx K mg c) : Df P w K mg base CX0 2 "check_round" spCheckRound := by
  refine df_0 T.D_check_round c_check_round b_check_round (fun vs H Q E h => ?_) fun f cdv A outer s H vs Q E hr h => ?_
  · obtain ⟨n, rfl, _⟩ := h
    rfl
  · obtain ⟨n, rfl, h0, h1, q⟩ := h
    refine ⟨_, (pss_one (ps_if (PW.pt (pw_or (pt_not (pt_val (pe_D (d_is_integer T) (hr.mono (by first | decide | omega)) rfl pass0 (pa_cons (pv 0) pa_nil)))) (pw_or1 (pt_not (pt_chain op_le op_le pe_int (pv 0) (pe_gI rfl T.MOST_ROUND)))))) (pss_one ps_never) pss_nil)), ?_⟩
    refine ⟨_, rfl, n, rfl, true, rfl, iteF ?_⟩
    refine ⟨_, rfl, _, _, rfl, rfl, true, blT h0, iteT ?_⟩
    exact ⟨_, _, rfl, rfl, _, rfl, inD h1 q⟩
/-! ### is_pair -/
def spIsPair (K : PySem.W.Frag) : Sp := fun vs H Q _ => ∃ (v : V) (n : Int) (p : Int × Int), vs = [v, .int n] ∧ Dp K H v (prD p) ∧ 0 ≤ p.1 ∧ p.1 < n ∧ 0 ≤ p.2 ∧ p.2 < n ∧ Q (.bl true) H
abbrev s_is_pair : Stmt := top 22
theorem c_is_pair : FnScope ["thing", "around"] ["thing", "around"] (defScope s_is_pair) := ⟨rfl, rfl, rfl, by decide +kernel, rfl, by decide +kernel, by decide +kernel⟩
theorem b_is_pair : Bnd0 "is_pair" "is_pair" s_is_pair ["thing", "around"] := fun _ _ _ _ _ _ us hl => match us, hl with | [_, _], _ => rfl
theorem d_is_pair (T : Tx K mg c) : Df P w K mg base CX0 3 "is_pair" (spIsPair K) := by
  refine df_0 T.D_is_pair c_is_pair b_is_pair (fun vs H Q E h => ?_) fun f cdv A outer s H vs Q E hr h => ?_
  · obtain ⟨v, n, p, rfl, _⟩ := h
    rfl
  · obtain ⟨v, n, p, rfl, hd, h0, h1, h2, h3, q⟩ := h
    obtain ⟨a, rfl, ha⟩ := dp_pr hd
    refine ⟨_, (pss_cons (ps_if (PW.pt (pw_or (pt_not (pt_val (pe_callB call_isi (by rfl) T.isinstance (by decide +kernel) (pa_cons (pv 0) (pa_cons (pe_tyN "tuple" (by rfl) T.tuple (by decide +kernel)) pa_nil))))) (pw_or1 (pt_cmpR op_ne (pe_callB call_len_seq (by rfl) T.len (by decide +kernel) (pa_cons (pv 0) pa_nil)) pe_int (nomark _))))) (pss_one (ps_ret pe_bl)) pss_nil)
      (pss_one (ps_ret (pe_and (pe_D (d_is_place T) (hr.mono (by first | decide | omega)) rfl pass0 (pa_cons (pe_ix (r := rIxT K) ix_tup (pv 0) pe_int (fun _ _ => rfl)) (pa_cons (pv 1) pa_nil))) (pe_one (pe_D (d_is_place T) (hr.mono (by first | decide | omega)) rfl pass0 (pa_cons (pe_ix (r := rIxT K) ix_tup (pv 0) pe_int (fun _ _ => rfl)) (pa_cons (pv 1) pa_nil)))))))), ?_⟩
    refine ⟨_, rfl, .ref a, .ty "tuple", _, _, true, rfl, .ty _, tyx_tup ha, kit_ty (by decide +kernel), true, rfl, iteF ?_⟩
    refine ⟨_, rfl, a, _, rfl, .inr ha, rfl, _, rfl, iteF ?_⟩
    refine ⟨_, rfl, a, _, _, _, rfl, rfl, ha, atI0, _, rfl, p.1, n, rfl, h0, h1, true, rfl, iteT ?_⟩
    exact ⟨_, rfl, a, _, _, _, rfl, rfl, ha, atI1, _, rfl, p.2, n, rfl, h2, h3, q⟩
end
end L2.Jw
set_option Elab.async false
set_option linter.all false
set_option maxRecDepth 100000
set_option maxHeartbeats 4000000
namespace L2.Jw
open PySem PySem.Spec PyProof.Rows
theorem fm_bind {α β : Type} (l : List α) (f : α → Option β) : ∀ n, (List.range n).filterMap (fun i => (l[i]?).bind f) = (l.take n).filterMap f
  | 0 => by simp
  | n + 1 => by
    rw [fm_succ, fm_bind l f n, List.take_succ, List.filterMap_append]
    cases h : l[n]? with
    | none => simp [h]
    | some a =>
      simp only [Option.bind_some, Option.toList_some]
      cases hf : f a with
      | none => simp [hf]
      | some b => simp [hf]
theorem fm_all {α β : Type} (l : List α) (f : α → Option β) : (List.range l.length).filterMap (fun i => (l[i]?).bind f) = l.filterMap f := by rw [fm_bind, List.take_length]
theorem fm_get {α : Type} (l : List α) : (List.range l.length).filterMap (fun i => l[i]?) = l := by
  have h := fm_all l (some : α → Option α)
  rw [List.filterMap_some] at h
  refine Eq.trans (congrArg (fun f => (List.range l.length).filterMap f) (funext fun i => ?_)) h
  cases l[i]? <;> rfl
theorem fm_map {α β : Type} (l : List α) (f : α → β) : (List.range l.length).filterMap (fun i => (l[i]?).map f) = l.map f := by
  have h := fm_all l (fun a => some (f a))
  rw [List.filterMap_eq_map'] at h
  refine Eq.trans (congrArg (fun f => (List.range l.length).filterMap f) (funext fun i => ?_)) h
  cases l[i]? <;> rfl
section
variable {P : Program} {w : World} {K : PySem.W.Frag} {mg : Str → Option Value} {base : Heap} {c : Cs}
theorem dpAll_of {β : Type} {enc : β → PyData} {H : Hp} : ∀ {bs : List β} {ys : List V}, Paired (fun b y => Dp K H y (enc b)) bs ys → DpAll K H ys (bs.map enc)
  | _, _, .nil => .nil
  | _, _, .cons h t => .cons h (dpAll_of t)
theorem dpAll_to {β : Type} {enc : β → PyData} {H : Hp} : ∀ {bs : List β} {ys : List V}, DpAll K H ys (bs.map enc) → Paired (fun b y => Dp K H y (enc b)) bs ys
  | [], _, h => by cases h; exact .nil
  | b :: bs, _, h => by
    cases h with
    | cons a t => exact .cons a (dpAll_to t)
theorem dpAll_item {β : Type} {enc : β → PyData} {H : Hp} {bs : List β} {ys : List V} {i : Nat} {y : V} (h : DpAll K H ys (bs.map enc)) (hy : ys[i]? = some y) : ∃ b, bs[i]? = some b ∧ Dp K H y (enc b) := by
  obtain ⟨d, h1, h2⟩ := dpAll_get h hy
  rw [List.getElem?_map] at h1
  cases e : bs[i]? with
  | none => rw [e] at h1; cases h1
  | some b =>
    rw [e] at h1
    cases h1
    exact ⟨b, rfl, h2⟩
theorem dpAll_at {β : Type} {enc : β → PyData} {H : Hp} {bs : List β} {ys : List V} {i : Nat} {b : β} (h : DpAll K H ys (bs.map enc)) (hb : bs[i]? = some b) : ∃ y, ys[i]? = some y ∧ Dp K H y (enc b) := by
  have hl := dpAll_len h
  rw [List.length_map] at hl
  have hi : i < ys.length := by rw [hl]; exact (List.getElem?_eq_some_iff.mp hb).1
  obtain ⟨b', h1, h2⟩ := dpAll_item h (List.getElem?_eq_getElem hi)
  rw [hb] at h1
  cases h1
  exact ⟨_, List.getElem?_eq_getElem hi, h2⟩
theorem pr_but {D : Addr} {H H' : Hp} {acc : List V} {v : V} {p : Int × Int} (hD : H D = some (.lst acc)) (e : But D H H') (h : Dp K H v (prD p)) : Dp K H' v (prD p) := by
  obtain ⟨q, rfl, hq⟩ := dp_pr h
  exact pr_dp (but_sqT e hD hq)
/-! ### checked_rows -/
def spCheckedRows (K : PySem.W.Frag) : Sp := fun vs H Q _ => ∃ (N : Int) (a : Addr) (xs : List V) (rows : List (Int × Int)), vs = [.int N, .ref a] ∧ 2 ≤ N ∧ N ≤ 360 ∧ H a = some (.lst xs) ∧ DpAll K H xs (rows.map prD) ∧ GoodRows N rows ∧
  ∀ H' p, Same H H' → Dp K H' (.ref p) (.tuple (rows.map prD)) → Q (.ref p) H'
abbrev s_checked_rows : Stmt := top 23
theorem c_checked_rows : FnScope ["around", "rows", "before", "at", "pair", "begin", "rest", "behind"] ["around", "rows"] (defScope s_checked_rows) := ⟨rfl, rfl, rfl, by decide +kernel, rfl, by decide +kernel, by decide +kernel⟩
theorem b_checked_rows : Bnd0 "checked_rows" "checked_rows" s_checked_rows ["around", "rows"] := fun _ _ _ _ _ _ us hl => match us, hl with | [_, _], _ => rfl
theorem d_checked_rows (T : Tx K mg c) : Df P w K mg base CX0 4 "checked_rows" (spCheckedRows K) := by
  refine df_0 T.D_checked_rows c_checked_rows b_checked_rows (fun vs H Q E h => ?_) fun f cdv A outer s H vs Q E hr h => ?_
  · obtain ⟨N, a, xs, rows, rfl, _⟩ := h
    rfl
  · obtain ⟨N, a, xs, rows, rfl, n1, n2, ha, hd, G, q⟩ := h
    have hl : xs.length = rows.length := by have := dpAll_len hd; rw [List.length_map] at this; exact this
    refine ⟨_, (pss_cons (ps_if (PW.pt (pw_or (pt_not (pt_val (pe_D (d_is_row T) (hr.mono (by first | decide | omega)) rfl pass0 (pa_cons (pv 1) pa_nil)))) (pw_or1 (pt_not (pt_chain op_le op_le pe_int (pe_callB call_len_seq (by rfl) T.len (by decide +kernel) (pa_cons (pv 1) pa_nil)) (pe_gI rfl T.MOST_ROWS_turnings)))))) (pss_one ps_never) pss_nil)
      (pss_cons (ps_set (i := 2) c_checked_rows.nd rfl (Or.inl rfl) (pe_un un_neg pe_int))
      (pss_cons (ps_for PassesOwn.never rfl (pi_enum (by rfl) T.enumerate (pa_cons (pv 1) pa_nil)) (pg_tup rfl (pgs_cons (pg_name (i := 3) c_checked_rows.nd rfl (Or.inl rfl)) (pgs_cons (pg_name (i := 4) c_checked_rows.nd rfl (Or.inl rfl)) pgs_nil)))
      (pss_cons (ps_if (PW.pt (pw_or (pt_not (pt_val (pe_D (d_is_pair T) (hr.mono (by first | decide | omega)) rfl pass0 (pa_cons (pv 4) (pa_cons (pv 0) pa_nil))))) (pw_or1 (pt_cmpR op_le (pe_ix (r := rIxT K) ix_tup (pv 4) pe_int (fun _ _ => rfl)) (pv 2) (nomark _))))) (pss_one ps_never) pss_nil)
      (pss_one (ps_set (i := 2) c_checked_rows.nd rfl (Or.inl rfl) (pe_ix (r := rIxT K) ix_tup (pv 4) pe_int (fun _ _ => rfl))))))
      (pss_cons (ps_for PassesOwn.never rfl (pi_enum (by rfl) T.enumerate (pa_cons (pv 1) pa_nil)) (pg_tup rfl (pgs_cons (pg_name (i := 3) c_checked_rows.nd rfl (Or.inl rfl)) (pgs_cons (pg_tup rfl (pgs_cons (pg_name (i := 5) c_checked_rows.nd rfl (Or.inl rfl)) (pgs_cons (pg_name (i := 6) c_checked_rows.nd rfl (Or.inl rfl)) pgs_nil))) pgs_nil)))
      (pss_cons (ps_set (i := 7) c_checked_rows.nd rfl (Or.inl rfl) (pe_ifExp (pt_cmpR op_lt (pe_op op_add (pv 3) pe_int) (pe_callB call_len_seq (by rfl) T.len (by decide +kernel) (pa_cons (pv 1) pa_nil)) (nomark _)) (pe_ix (r := rIxT K) ix_tup (pe_ix (r := rIxL K) ix_list (pv 1) (pe_op op_add (pv 3) pe_int) (fun _ _ => rfl)) pe_int (fun _ _ => rfl)) (pe_op op_add (pe_ix (r := rIxT K) ix_tup (pe_ix (r := rIxL K) ix_list (pv 1) pe_int (fun _ _ => rfl)) pe_int (fun _ _ => rfl)) (pv 0))))
      (pss_one (ps_if (pt_cmpR op_ge (pe_op op_add (pv 5) (pe_op op_mod (pe_op op_sub (pv 6) (pv 5)) (pv 0))) (pv 7) (nomark _)) (pss_one ps_never) pss_nil))))
      (pss_one (ps_ret (pe_callTy call_tuple_of (by rfl) T.tuple (by decide +kernel) (pa_cons (pe_lc (own := [("begin", 5), ("rest", 6)]) (g := (gTup K 2 (gCons (gName 5) (gCons (gName 6) gNil)))) (tt := tYes) (by rfl) c_checked_rows.nd (pi_list (pv 1)) (blkOk_by (own := [("begin", 5), ("rest", 6)]) (N := ["around", "rows", "before", "at", "pair", "begin", "rest", "behind"]) (sc := defScope s_checked_rows) (by decide +kernel)) (fun _ _ _ _ _ => (pg_tup rfl (pgs_cons (pg_name (i := 5) c_checked_rows.nd rfl (Or.inl rfl)) (pgs_cons (pg_name (i := 6) c_checked_rows.nd rfl (Or.inl rfl)) pgs_nil)))) (fun _ _ _ _ _ => pts_nil) (fun _ _ _ _ _ => (pe_tup (pa_cons (pv 5) (pa_cons (pv 6) pa_nil))))) pa_nil)))))))), ?_⟩
    -- if not is_row(rows) or ..
    refine ⟨_, rfl, a, xs, rfl, ha, fun H1 e1 => ⟨true, rfl, iteF ?_⟩⟩
    refine ⟨_, rfl, a, xs, rfl, .inl (SqL.of (e1 _ _ ha)), _, _, rfl, rfl, true, blT (by rw [hl]; exact Int.ofNat_le.mpr G.lo), iteT ⟨_, _, rfl, rfl, _, rfl, inD (by rw [hl]; exact Int.ofNat_le.mpr G.hi) ?_⟩⟩
    -- before = -1
    refine ⟨1, rfl, ?_⟩
    -- the first walk
    refine ⟨_, rfl, a, xs, rfl, SqL.of (e1 _ _ ha), for_it walk_enum (fun i σ H2 => Same H H2 ∧ ∃ (b : Int) (x3 x4 : Option V), σ = [some (.int N), some (.ref a), some (.int b), x3, x4, none, none, none] ∧ ∀ r, rows[i]? = some r → b < r.1)
      ⟨e1, -1, none, none, rfl, fun r hr0 => ?_⟩ (fun i σ H2 _ p => SqL.of (p.1 _ _ ha)) ?_ ?_⟩
    · have := (G.bnd r (List.mem_of_getElem? hr0)).1
      omega
    · rintro i x σ H2 H3 hi ⟨e2, b, x3, x4, rfl, hb⟩ ⟨t, x0, y, rfl, ht, rfl, hx0, hy⟩
      cases hx0
      obtain ⟨r, hrow, hdy⟩ := dpAll_item hd hy
      obtain ⟨qa, rfl, hqa⟩ := dp_pr hdy
      have e3 := same_updN (o := .tup [.int (i : Nat), .ref qa]) e2 ht
      have hqa3 := same_sqT e3 hqa
      have B := G.bnd r (List.mem_of_getElem? hrow)
      refine ⟨t, _, rfl, SqT.of upd_same, rfl, _, _, rfl, _, _, rfl, rfl, ?_⟩
      refine ⟨_, rfl, _, rfl, .ref qa, N, r, rfl, pr_dp hqa3, B.1, B.2.1, B.2.2.1, B.2.2.2, true, rfl, iteF ?_⟩
      refine ⟨_, rfl, qa, _, _, _, rfl, rfl, hqa3, atI0, _, rfl, _, _, rfl, rfl, _, rfl, itN (by have := hb r hrow; omega) ?_⟩
      refine ⟨_, rfl, qa, _, _, _, rfl, rfl, hqa3, atI0, e3, _, _, _, rfl, fun r' hr' => G.asc i r r' hrow hr'⟩
    · rintro σ H2 ⟨e2, b, x3, x4, rfl, _⟩
      -- the second walk
      refine ⟨_, rfl, a, xs, rfl, SqL.of (e2 _ _ ha), for_it walk_enum (fun i σ H2 => Same H H2 ∧ ∃ (x3 x5 x6 x7 : Option V), σ = [some (.int N), some (.ref a), some (.int b), x3, x4, x5, x6, x7])
        ⟨e2, x3, none, none, none, rfl⟩ (fun i σ H2 _ p => SqL.of (p.1 _ _ ha)) ?_ ?_⟩
      · rintro i x σ H2 H3 hi ⟨e2, y3, x5, x6, x7, rfl⟩ ⟨t, x0, y, rfl, ht, rfl, hx0, hy⟩
        cases hx0
        obtain ⟨r, hrow, hdy⟩ := dpAll_item hd hy
        obtain ⟨qa, rfl, hqa⟩ := dp_pr hdy
        have e3 := same_updN (o := .tup [.int (i : Nat), .ref qa]) e2 ht
        have hqa3 := same_sqT e3 hqa
        have B := G.bnd r (List.mem_of_getElem? hrow)
        refine ⟨t, _, rfl, SqT.of upd_same, rfl, _, _, rfl, _, _, rfl, ⟨qa, _, rfl, hqa3, rfl, _, _, rfl, _, _, rfl, rfl, rfl, ?_⟩⟩
        have hN : 0 < N := by omega
        have hfit := G.fit i r hrow
        have key : ∀ v : Int, r.1 + (r.2 - r.1) % N < v → ∀ (Qz : Prop), Qz → (if decide (v ≤ r.1 + (r.2 - r.1) % N) = true then False else Qz) := fun v hv Qz z => by
          exact itN (by omega) z
        have h00 : ∃ q0 r0, rows[0]? = some r0 ∧ xs[0]? = some (.ref q0) ∧ SqT K H q0 [.int r0.1, .int r0.2] := by
          have h0 : 0 < rows.length := G.lo
          obtain ⟨y, hy, hdy⟩ := dpAll_at (i := 0) hd (List.getElem?_eq_getElem h0)
          obtain ⟨q0, rfl, hq0⟩ := dp_pr hdy
          exact ⟨q0, _, List.getElem?_eq_getElem h0, hy, hq0⟩
        refine ⟨_, rfl, _, _, rfl, rfl, _, rfl, a, xs, rfl, .inl (SqL.of (e3 _ _ ha)), _, _, rfl, rfl, _, rfl, ?_⟩
        by_cases hlt : i + 1 < rows.length
        · refine itD (by rw [hl]; omega) ?_
          obtain ⟨y2, hy2, hdy2⟩ := dpAll_at (i := i + 1) hd (List.getElem?_eq_getElem hlt)
          obtain ⟨q2, rfl, hq2⟩ := dp_pr hdy2
          rw [List.getElem?_eq_getElem hlt] at hfit
          refine ⟨_, rfl, _, rfl, _, _, rfl, rfl, a, xs, _, .ref q2, rfl, rfl, SqL.of (e3 _ _ ha), (by exact atI_nat (j := i + 1) hy2), q2, _, _, _, rfl, rfl, same_sqT e3 hq2, atI0, ?_⟩
          refine ⟨_, rfl, _, rfl, _, rfl, _, _, rfl, rfl, _, rfl, _, _, rfl, rfl, hN, _, _, rfl, rfl, _, rfl, _, _, rfl, rfl, _, rfl, ?_⟩
          exact key _ hfit _ ⟨e3, _, _, _, _, rfl⟩
        · refine itN (by rw [hl]; omega) ?_
          obtain ⟨q0, r0, hr0, hy0, hq0⟩ := h00
          have hnone : rows[i + 1]? = none := List.getElem?_eq_none (by omega)
          rw [hnone] at hfit
          have hh : rows.headD (0, 0) = r0 := by
            cases rows with
            | nil => cases hr0
            | cons z zs => cases hr0; rfl
          rw [hh] at hfit
          refine ⟨_, rfl, a, xs, _, .ref q0, rfl, rfl, SqL.of (e3 _ _ ha), (by exact atI_nat (j := 0) hy0), q0, _, _, _, rfl, rfl, same_sqT e3 hq0, atI0, _, rfl, _, _, rfl, rfl, ?_⟩
          refine ⟨_, rfl, _, rfl, _, rfl, _, _, rfl, rfl, _, rfl, _, _, rfl, rfl, hN, _, _, rfl, rfl, _, rfl, _, _, rfl, rfl, _, rfl, ?_⟩
          exact key _ hfit _ ⟨e3, _, _, _, _, rfl⟩
      · rintro σ H2 ⟨e2, y3, x5, x6, x7, rfl⟩
        refine ⟨_, rfl, a, rfl, ⟨xs, SqL.of (e2 _ _ ha)⟩, fun D hD => lc_fm walk_list (fun i => rows[i]?) (fun r y H => Dp K H y (prD r)) hD (fun H4 e4 => SqL.of (e4 _ _ (e2 _ _ ha))) (by rw [hl]; have := G.hi; omega) (fun _ _ _ _ _ hD' e h => pr_but hD' e h) ?_ ?_⟩
        · rintro i x H4 H5 Cy Cn hi e4 ⟨rfl, hx⟩ hy _
          obtain ⟨r, hrow, hdx⟩ := dpAll_item hd hx
          obtain ⟨qa, rfl, hqa⟩ := dp_pr hdx
          have hqa4 := same_sqT (e2.trans e4) hqa
          refine ⟨qa, _, rfl, hqa4, rfl, _, _, rfl, _, _, rfl, rfl, rfl, ?_⟩
          refine ⟨_, rfl, _, rfl, (by show 2 ≤ sizeLine; decide), fun p hp => ?_⟩
          exact hy r _ _ hrow (same_new hp) (pr_dp (SqT.of upd_same))
        · intro H4 acc e4 hacc hp
          rw [hl, fm_get] at hp
          refine ⟨D, acc, rfl, .inl ⟨SqL.of hacc, fun l hl2 => ?_⟩⟩
          refine q _ l (e2.trans (e4.trans (same_new hl2))) (.tup (SqT.of upd_same) ?_)
          exact dpAll_same (same_new hl2) _ _ (dpAll_of hp)
end
end L2.Jw
set_option Elab.async false
set_option linter.all false
set_option maxRecDepth 100000
set_option maxHeartbeats 4000000
namespace L2.Jw
open PySem PySem.Spec PyProof.Rows
section
variable {P : Program} {w : World} {K : PySem.W.Frag} {mg : Str → Option Value} {base : Heap} {c : Cs}
/-! ### pairs as data -/
theorem dataLe_pr : PySem.W.dataLe false prD = leP := PySem.W.dataLe_ii (fun b : Int × Int => b.1) (fun b => b.2)
theorem alike_pr (a b : Int × Int) : PySem.W.alike (prD a) (prD b) = true := by simp [prD, PySem.W.alike, PySem.W.alikeAll]
theorem prD_depth (z : Int × Int) : (prD z).depth = 1 := by simp [prD, PyData.depth, PyData.depthAll]
theorem prDs_depth : ∀ zs : List (Int × Int), PyData.depthAll (zs.map prD) ≤ 1
  | [] => by simp [PyData.depthAll]
  | z :: zs => by
    have h1 := prDs_depth zs
    have h2 := prD_depth z
    simp only [List.map_cons, PyData.depthAll]
    omega
theorem prD_lay (z : Int × Int) : (prD z).canLay0 = true := by simp [prD, PyData.canLay0, PyData.canLayAll0]
theorem prDs_lay : ∀ zs : List (Int × Int), PyData.canLayAll0 (zs.map prD) = true
  | [] => by simp [PyData.canLayAll0]
  | z :: zs => by simp [PyData.canLayAll0, prD_lay z, prDs_lay zs]
theorem prT_shaped (zs : List (Int × Int)) : SeqAt.shaped (.tuple (zs.map prD)) = true := by
  have h1 := prDs_depth zs
  have h2 : PyData.depth (.tuple (zs.map prD)) ≤ 64 := by
    simp only [PyData.depth]
    omega
  show (PyData.canLay0 (.tuple (zs.map prD)) && decide (PyData.depth (.tuple (zs.map prD)) ≤ 64)) = true
  rw [Bool.and_eq_true]
  exact ⟨by simp only [PyData.canLay0]; exact prDs_lay zs, decide_eq_true h2⟩
theorem prD_eqv (z u : Int × Int) : PyData.eqv (prD z) (prD u) = decide (z = u) := by
  obtain ⟨a, b⟩ := z
  obtain ⟨a', b'⟩ := u
  have e : PyData.eqv (prD (a, b)) (prD (a', b')) = ((a == a') && ((b == b') && true)) := by simp only [prD, PyData.eqv, PyData.eqvAll]
  rw [e]
  by_cases h1 : a = a'
  · by_cases h2 : b = b'
    · rw [h1, h2]
      simp
    · have q : (b == b') = false := beq_eq_false_iff_ne.mpr h2
      rw [q, decide_eq_false (fun z => h2 (Prod.mk.inj z).2)]
      simp
  · have q : (a == a') = false := beq_eq_false_iff_ne.mpr h1
    rw [q, decide_eq_false (fun z => h1 (Prod.mk.inj z).1)]
    simp
theorem prDs_eqv : ∀ zs us : List (Int × Int), PyData.eqvAll (zs.map prD) (us.map prD) = decide (zs = us)
  | [], [] => by simp [PyData.eqvAll]
  | [], _ :: _ => by simp [PyData.eqvAll]
  | _ :: _, [] => by simp [PyData.eqvAll]
  | z :: zs, u :: us => by
    simp only [List.map_cons, PyData.eqvAll]
    rw [prD_eqv, prDs_eqv zs us]
    by_cases h1 : z = u
    · by_cases h2 : zs = us
      · rw [h1, h2]
        simp
      · rw [decide_eq_false h2, decide_eq_false (fun q => h2 (List.cons.inj q).2)]
        simp
    · rw [decide_eq_false h1, decide_eq_false (fun q => h1 (List.cons.inj q).1)]
      simp
theorem prT_eqv (zs us : List (Int × Int)) : PyData.eqv (.tuple (zs.map prD)) (.tuple (us.map prD)) = decide (zs = us) := by
  simp only [PyData.eqv]
  exact prDs_eqv zs us
theorem dp_tup {H : Hp} {v : V} {ds : List PyData} (h : Dp K H v (.tuple ds)) : ∃ a xs, v = .ref a ∧ SqT K H a xs ∧ DpAll K H xs ds := by
  cases h with
  | tup h1 h2 => exact ⟨_, _, rfl, h1, h2⟩
theorem dp_lst {H : Hp} {v : V} {ds : List PyData} (h : Dp K H v (.list ds)) : ∃ a xs, v = .ref a ∧ SqL K H a xs ∧ DpAll K H xs ds := by
  cases h with
  | lst h1 h2 => exact ⟨_, _, rfl, h1, h2⟩
/-! ### rows_turned -/
def spRowsTurned (K : PySem.W.Frag) : Sp := fun vs H Q _ => ∃ (N : Int) (v : V) (by_ : Int) (rows : List (Int × Int)), vs = [.int N, v, .int by_] ∧ 0 < N ∧ Dp K H v (.tuple (rows.map prD)) ∧ rows.length ≤ 1000 ∧
  ∀ H' p, Same H H' → Dp K H' (.ref p) (.tuple ((turnRows N rows by_).map prD)) → Q (.ref p) H'
abbrev s_rows_turned : Stmt := top 24
theorem c_rows_turned : FnScope ["around", "rows", "by", "begin", "rest"] ["around", "rows", "by"] (defScope s_rows_turned) := ⟨rfl, rfl, rfl, by decide +kernel, rfl, by decide +kernel, by decide +kernel⟩
theorem b_rows_turned : Bnd0 "rows_turned" "rows_turned" s_rows_turned ["around", "rows", "by"] := fun _ _ _ _ _ _ us hl => match us, hl with | [_, _, _], _ => rfl
theorem d_rows_turned (T : Tx K mg c) : Df P w K mg base CX0 1 "rows_turned" (spRowsTurned K) := by
  refine df_0 T.D_rows_turned c_rows_turned b_rows_turned (fun vs H Q E h => ?_) fun f cdv A outer s H vs Q E hr h => ?_
  · obtain ⟨N, v, b, rows, rfl, _⟩ := h
    rfl
  · obtain ⟨N, v, b, rows, rfl, hN, hd, hlen, q⟩ := h
    obtain ⟨a, xs, rfl, hs, hda⟩ := dp_tup hd
    have hl : xs.length = rows.length := by have := dpAll_len hda; rw [List.length_map] at this; exact this
    refine ⟨_, (pss_one (ps_ret (pe_callTy call_tuple_of (by rfl) T.tuple (by decide +kernel) (pa_cons (pe_callB (cr_sortD (enc := prD) hr.units) (by rfl) T.sorted (by decide +kernel) (pa_cons (pe_lc (own := [("begin", 3), ("rest", 4)]) (g := (gTup K 2 (gCons (gName 3) (gCons (gName 4) gNil)))) (tt := tYes) (by rfl) c_rows_turned.nd (pi_tup (pv 1)) (blkOk_by (own := [("begin", 3), ("rest", 4)]) (N := ["around", "rows", "by", "begin", "rest"]) (sc := defScope s_rows_turned) (by decide +kernel)) (fun _ _ _ _ _ => (pg_tup rfl (pgs_cons (pg_name (i := 3) c_rows_turned.nd rfl (Or.inl rfl)) (pgs_cons (pg_name (i := 4) c_rows_turned.nd rfl (Or.inl rfl)) pgs_nil)))) (fun _ _ _ _ _ => pts_nil) (fun _ _ _ _ _ => (pe_tup (pa_cons (pe_op op_mod (pe_op op_add (pv 3) (pv 2)) (pv 0)) (pa_cons (pe_op op_mod (pe_op op_add (pv 4) (pv 2)) (pv 0)) pa_nil))))) pa_nil)) pa_nil)))), ?_⟩
    refine ⟨_, rfl, a, rfl, ⟨xs, hs⟩, fun D hD => lc_fm walk_tup (fun i => (rows[i]?).map fun r => ((r.1 + b) % N, (r.2 + b) % N)) (fun r y H => Dp K H y (prD r)) hD (fun H4 e4 => same_sqT e4 hs) (by omega) (fun _ _ _ _ _ hD' e h => pr_but hD' e h) ?_ ?_⟩
    · rintro i x H4 H5 Cy Cn hi e4 ⟨rfl, hx⟩ hy _
      obtain ⟨r, hrow, hdx⟩ := dpAll_item hda hx
      obtain ⟨qa, rfl, hqa⟩ := dp_pr hdx
      refine ⟨qa, _, rfl, same_sqT e4 hqa, rfl, _, _, rfl, _, _, rfl, rfl, rfl, ?_⟩
      refine ⟨_, rfl, _, rfl, _, _, rfl, rfl, _, rfl, _, _, rfl, rfl, hN, _, rfl, _, rfl, _, _, rfl, rfl, _, rfl, _, _, rfl, rfl, hN, (by show 2 ≤ sizeLine; decide), fun p hp => ?_⟩
      exact hy ((r.1 + b) % N, (r.2 + b) % N) _ _ (by rw [hrow]; rfl) (same_new hp) (pr_dp (SqT.of upd_same))
    · intro H4 acc e4 hacc hp
      rw [hl, fm_map] at hp
      refine ⟨D, acc, _, rfl, SqL.of hacc, dpAll_of hp, PySem.W.AllAlike.of fun a b => alike_pr a b, PySem.W.Sortable.tuples fun b => ⟨_, _, rfl⟩, fun b _ => by rw [prD_depth]; decide, fun l ys hl2 hys => ?_⟩
      rw [dataLe_pr] at hys
      refine ⟨l, ys, rfl, .inl ⟨SqL.of upd_same, fun l3 hl3 => ?_⟩⟩
      refine q _ l3 (e4.trans ((same_new hl2).trans (same_new hl3))) (.tup (SqT.of upd_same) ?_)
      exact dpAll_same ((same_new hl2).trans (same_new hl3)) _ _ hys
/-! ### least_period -/
def spLeastPeriod (K : PySem.W.Frag) : Sp := fun vs H Q _ => ∃ (N : Int) (v : V) (rows : List (Int × Int)), vs = [.int N, v] ∧ 1 < N ∧ N ≤ 1000 ∧ Dp K H v (.tuple (rows.map prD)) ∧ rows.length ≤ 1000 ∧
  ∀ H' p, Same H H' → PeriodOf N rows p → Q (.int p) H'
abbrev s_least_period : Stmt := top 25
theorem c_least_period : FnScope ["around", "rows", "step"] ["around", "rows"] (defScope s_least_period) := ⟨rfl, rfl, rfl, by decide +kernel, rfl, by decide +kernel, by decide +kernel⟩
theorem b_least_period : Bnd0 "least_period" "least_period" s_least_period ["around", "rows"] := fun _ _ _ _ _ _ us hl => match us, hl with | [_, _], _ => rfl
theorem d_least_period (T : Tx K mg c) : Df P w K mg base CX0 2 "least_period" (spLeastPeriod K) := by
  refine df_0 T.D_least_period c_least_period b_least_period (fun vs H Q E h => ?_) fun f cdv A outer s H vs Q E hr h => ?_
  · obtain ⟨N, v, rows, rfl, _⟩ := h
    rfl
  · obtain ⟨N, v, rows, rfl, hN, hN2, hd, hlen, q⟩ := h
    refine ⟨_, (pss_cons (ps_for PassesOwn.never rfl (pi_range2 (by rfl) T.range (pa_cons pe_int (pa_cons (pv 0) pa_nil))) (pg_name (i := 2) c_least_period.nd rfl (Or.inl rfl))
      (pss_one (ps_if (PW.pt (pw_and (pt_cmpR op_eq (pe_op op_mod (pv 0) (pv 2)) pe_int (nomark _)) (pw_and1 (pt_cmpR (op_eqD hr.units) (pe_D (d_rows_turned T) (hr.mono (by first | decide | omega)) rfl pass0 (pa_cons (pv 0) (pa_cons (pv 1) (pa_cons (pv 2) pa_nil)))) (pv 1) (nomark _))))) (pss_one (ps_ret (pv 2))) pss_nil)))
      (pss_one (ps_ret (pv 0)))), ?_⟩
    refine ⟨_, rfl, 1, N, rfl, ⟨by omega, by omega, by omega, by omega⟩, for_it (walk_range (lo := 1) (n := (N - 1).toNat)) (fun i σ H2 => Same H H2 ∧ (∃ x2, σ = [some (.int N), some v, x2]) ∧ ∀ s : Int, 1 ≤ s → s < 1 + i → N % s = 0 → turnRows N rows s ≠ rows)
      ⟨Same.refl _, ⟨none, rfl⟩, fun s h1 h2 => by omega⟩ (fun _ _ _ _ _ => True.intro) ?_ ?_⟩
    · rintro i x σ H2 H3 hi ⟨e2, ⟨x2, rfl⟩, hno⟩ ⟨rfl, rfl⟩
      have hp : (0 : Int) < 1 + (i : Int) := by omega
      refine ⟨_, rfl, _, rfl, _, _, rfl, rfl, hp, rfl, _, rfl, ite2 (fun h1 => ?_) (fun h1 => ?_)⟩
      · have h1' : N % (1 + (i : Int)) = 0 := by
          have := of_decide_eq_true h1
          exact V.int.inj this
        refine ⟨_, rfl, _, rfl, _, rfl, N, v, _, rows, rfl, by omega, dp_same e2 _ _ hd, hlen, fun H4 p e4 hdp => ?_⟩
        refine ⟨_, rfl, _, _, hdp, dp_same (e2.trans e4) _ _ hd, prT_shaped _, prT_shaped _, _, rfl, ?_⟩
        rw [prT_eqv]
        refine ite2 (fun h2 => ?_) (fun h2 => ?_)
        · exact ⟨_, rfl, q _ _ (e2.trans e4) ⟨by omega, by omega, h1', .inl (of_decide_eq_true h2), fun s s1 s2 s3 => hno s s1 (by omega) s3⟩⟩
        · refine ⟨e2.trans e4, ⟨_, rfl⟩, fun s s1 s2 s3 => ?_⟩
          by_cases e : s = 1 + (i : Int)
          · rw [e]
            exact fun z => h2 (decide_eq_true z)
          · exact hno s s1 (by omega) s3
      · refine ⟨e2, ⟨_, rfl⟩, fun s s1 s2 s3 => ?_⟩
        by_cases e : s = 1 + (i : Int)
        · exfalso
          apply h1
          rw [e] at s3
          exact decide_eq_true (congrArg V.int s3)
        · exact hno s s1 (by omega) s3
    · rintro σ H2 ⟨e2, ⟨x2, rfl⟩, hno⟩
      exact ⟨_, rfl, q _ _ e2 ⟨by omega, by omega, Int.emod_self, .inr rfl, fun s s1 s2 s3 => hno s s1 (by omega) s3⟩⟩
end
end L2.Jw
set_option Elab.async false
set_option linter.all false
set_option maxRecDepth 100000
set_option maxHeartbeats 4000000
namespace L2.Jw
open PySem PySem.Spec PyProof.Rows
/-! ## plain laws of the rows -/
theorem leP_trans (a b c : Int × Int) : leP a b = true → leP b c = true → leP a c = true := by
  unfold leP
  simp only [decide_eq_true_eq]
  omega
theorem leP_total (a b : Int × Int) : (leP a b || leP b a) = true := by
  unfold leP
  simp only [Bool.or_eq_true, decide_eq_true_eq]
  omega
theorem leP_anti {a b : Int × Int} (h1 : leP a b = true) (h2 : leP b a = true) : a = b := by
  unfold leP at h1 h2
  simp only [decide_eq_true_eq] at h1 h2
  exact Prod.ext (by omega) (by omega)
theorem sorted_uniq {l m : List (Int × Int)} (h : l.Perm m) (hl : l.Pairwise fun a b => leP a b = true) (hm : m.Pairwise fun a b => leP a b = true) : l = m :=
  h.eq_of_pairwise (fun a b _ _ h1 h2 => leP_anti h1 h2) hl hm
theorem sorted_pairs (l : List (Int × Int)) : (l.mergeSort leP).Pairwise fun a b => leP a b = true := List.pairwise_mergeSort leP_trans leP_total l
theorem sort_uniq {l m : List (Int × Int)} (h : l.Perm m) (hm : m.Pairwise fun a b => leP a b = true) : l.mergeSort leP = m := sorted_uniq ((List.mergeSort_perm l leP).trans h) (sorted_pairs l) hm
/-- a short list without doubles, its members in another of the same length: a permutation -/
theorem perm_of_sub {α : Type} [DecidableEq α] : ∀ {l m : List α}, l.Nodup → (∀ x ∈ l, x ∈ m) → m.length ≤ l.length → l.Perm m
  | [], m, _, _, hl => by
    have : m = [] := List.eq_nil_of_length_eq_zero (Nat.le_zero.mp hl)
    rw [this]
  | x :: l, m, hn, hs, hl => by
    obtain ⟨h1, h2⟩ := List.nodup_cons.mp hn
    have hx : x ∈ m := hs x (List.mem_cons_self ..)
    have e := List.perm_cons_erase hx
    have ih := perm_of_sub (l := l) (m := m.erase x) h2 (fun y hy => (List.mem_erase_of_ne fun z => h1 (by rw [← z]; exact hy)).mpr (hs y (List.mem_cons_of_mem _ hy))) (by
      rw [List.length_erase_of_mem hx]
      rw [List.length_cons] at hl
      omega)
    exact (ih.cons x).trans e.symm
theorem nodup_len {α : Type} [DecidableEq α] : ∀ {l m : List α}, l.Nodup → (∀ x ∈ l, x ∈ m) → l.length ≤ m.length
  | [], _, _, _ => Nat.zero_le _
  | x :: l, m, hn, hs => by
    obtain ⟨h1, h2⟩ := List.nodup_cons.mp hn
    have hx : x ∈ m := hs x (List.mem_cons_self ..)
    have ih := nodup_len (l := l) (m := m.erase x) h2 fun y hy => (List.mem_erase_of_ne fun z => h1 (by rw [← z]; exact hy)).mpr (hs y (List.mem_cons_of_mem _ hy))
    rw [List.length_erase_of_mem hx] at ih
    have := List.length_pos_of_mem hx
    rw [List.length_cons]
    omega
/-! ### shifts -/
def sh (N s : Int) (r : Int × Int) : Int × Int := ((r.1 + s) % N, (r.2 + s) % N)
def Inv' (N : Int) (rows : List (Int × Int)) (s : Int) : Prop := ∀ r ∈ rows, sh N s r ∈ rows
theorem sh_add (N s t : Int) (r : Int × Int) : sh N t (sh N s r) = sh N (s + t) r := by
  unfold sh
  simp only [Int.emod_add_emod, Int.add_assoc]
theorem inv_add {N s t : Int} {rows : List (Int × Int)} (h1 : Inv' N rows s) (h2 : Inv' N rows t) : Inv' N rows (s + t) := fun r hr => by
  rw [← sh_add]
  exact h2 _ (h1 r hr)
theorem inv_congr {N s t : Int} {rows : List (Int × Int)} (h1 : Inv' N rows s) (e : (s - t) % N = 0) : Inv' N rows t := fun r hr => by
  have h := h1 r hr
  have k : ∀ x : Int, (x + s) % N = (x + t) % N := fun x => by
    rw [Int.emod_eq_emod_iff_emod_sub_eq_zero]
    rw [show x + s - (x + t) = s - t by omega]
    exact e
  unfold sh at h ⊢
  rw [k, k] at h
  exact h
theorem inv_mul {N s : Int} {rows : List (Int × Int)} (h : Inv' N rows s) : ∀ k : Nat, 0 < k → Inv' N rows (k * s)
  | 0, h0 => absurd h0 (Nat.lt_irrefl _)
  | 1, _ => by
    rw [show ((1 : Nat) : Int) * s = s by omega]
    exact h
  | k + 2, _ => by
    have := inv_add (inv_mul h (k + 1) (Nat.succ_pos _)) h
    rw [show ((k + 2 : Nat) : Int) * s = ((k + 1 : Nat) : Int) * s + s by
      rw [show ((k + 2 : Nat) : Int) = ((k + 1 : Nat) : Int) + 1 by omega, Int.add_mul, Int.one_mul]]
    exact this
theorem inv_mod {N : Int} {rows : List (Int × Int)} (hN : 0 < N) {a b : Nat} (ha : Inv' N rows a) (hb : Inv' N rows b) : Inv' N rows ((a % b : Nat) : Int) := by
  by_cases q0 : a / b * (N.toNat - 1) = 0
  · have h2 := Nat.mod_add_div a b
    rcases Nat.mul_eq_zero.mp q0 with z | z
    · rw [z, Nat.mul_zero, Nat.add_zero] at h2
      rw [h2]
      exact ha
    · -- N = 1
      refine inv_congr ha ?_
      have : N = 1 := by omega
      rw [this]
      exact Int.emod_one _
  · have h1 := inv_add ha (inv_mul hb (a / b * (N.toNat - 1)) (Nat.pos_of_ne_zero q0))
    refine inv_congr h1 ?_
    have h2 := Nat.mod_add_div a b
    obtain ⟨n, rfl⟩ : ∃ n : Nat, N = n := ⟨N.toNat, by omega⟩
    have hn : 0 < n := by omega
    have h3 : (a : Int) = ((a % b : Nat) : Int) + (b : Int) * ((a / b : Nat) : Int) := by exact_mod_cast h2.symm
    have h4 : (((n : Int).toNat - 1 : Nat) : Int) = (n : Int) - 1 := by omega
    have e : (a : Int) + ((a / b * ((n : Int).toNat - 1) : Nat) : Int) * (b : Int) - ((a % b : Nat) : Int) = (n : Int) * (((a / b : Nat) : Int) * (b : Int)) := by
      rw [Int.natCast_mul, h4]
      generalize ((a / b : Nat) : Int) = q at *
      generalize ((a % b : Nat) : Int) = r at *
      rw [h3]
      rw [Int.mul_sub, Int.mul_one, Int.sub_mul]
      rw [show q * (n : Int) * (b : Int) = (n : Int) * (q * (b : Int)) by rw [Int.mul_comm q, Int.mul_assoc]]
      rw [Int.mul_comm q (b : Int)]
      omega
    rw [e]
    exact Int.mul_emod_right _ _
theorem inv_gcd {N : Int} {rows : List (Int × Int)} (hN : 0 < N) : ∀ (a b : Nat), Inv' N rows a → Inv' N rows b → Inv' N rows (Nat.gcd a b) := fun a b => by
  induction a, b using Nat.gcd.induction with
  | H0 n => intro _ h; rw [Nat.gcd_zero_left]; exact h
  | H1 m n hm ih =>
    intro h1 h2
    rw [Nat.gcd_rec]
    exact ih (inv_mod hN h2 h1) h1
/-- rows that stand in order: turned into themselves, or not, by their members -/
structure Ord (N : Int) (rows : List (Int × Int)) : Prop where
  pos : 0 < N
  bnd : ∀ r ∈ rows, 0 ≤ r.1 ∧ r.1 < N ∧ 0 ≤ r.2 ∧ r.2 < N
  srt : rows.Pairwise fun a b => leP a b = true
  nd : rows.Nodup
theorem sh_inj {N s : Int} {a b : Int × Int} (ha : 0 ≤ a.1 ∧ a.1 < N ∧ 0 ≤ a.2 ∧ a.2 < N) (hb : 0 ≤ b.1 ∧ b.1 < N ∧ 0 ≤ b.2 ∧ b.2 < N) (h : sh N s a = sh N s b) : a = b := by
  unfold sh at h
  have h1 := (Prod.mk.inj h).1
  have h2 := (Prod.mk.inj h).2
  have k : ∀ x y : Int, 0 ≤ x → x < N → 0 ≤ y → y < N → (x + s) % N = (y + s) % N → x = y := fun x y x0 x1 y0 y1 e => by
    rw [Int.emod_eq_emod_iff_emod_sub_eq_zero, show x + s - (y + s) = x - y by omega, ← Int.emod_eq_emod_iff_emod_sub_eq_zero, Int.emod_eq_of_lt x0 x1, Int.emod_eq_of_lt y0 y1] at e
    exact e
  exact Prod.ext (k _ _ ha.1 ha.2.1 hb.1 hb.2.1 h1) (k _ _ ha.2.2.1 ha.2.2.2 hb.2.2.1 hb.2.2.2 h2)
theorem turn_of_inv {N s : Int} {rows : List (Int × Int)} (O : Ord N rows) (h : Inv' N rows s) : turnRows N rows s = rows := by
  refine sort_uniq (perm_of_sub ?_ ?_ (by rw [List.length_map]; exact Nat.le_refl _)) O.srt
  · rw [List.nodup_iff_pairwise_ne, List.pairwise_map]
    refine List.Pairwise.imp_of_mem (fun {a b} ha hb hne e => hne (sh_inj (s := s) (O.bnd a ha) (O.bnd b hb) e)) (List.nodup_iff_pairwise_ne.mp O.nd)
  · intro x hx
    obtain ⟨r, hr, rfl⟩ := List.mem_map.mp hx
    exact h r hr
theorem inv_of_turn {N s : Int} {rows : List (Int × Int)} (h : turnRows N rows s = rows) : Inv' N rows s := fun r hr => by
  have : sh N s r ∈ turnRows N rows s := (List.mergeSort_perm _ leP).mem_iff.mpr (List.mem_map.mpr ⟨r, hr, rfl⟩)
  rw [h] at this
  exact this
/-- the least step goes into every step that turns the rows into themselves -/
theorem period_dvd {N p s : Int} {rows : List (Int × Int)} (O : Ord N rows) (hp : PeriodOf N rows p) (hs : Inv' N rows s) (s0 : 0 ≤ s) : s % p = 0 := by
  have hpi : Inv' N rows p := by
    rcases hp.fix with h | h
    · exact inv_of_turn h
    · rw [h]
      intro r hr
      have B := O.bnd r hr
      unfold sh
      rw [Int.add_emod_right, Int.add_emod_right, Int.emod_eq_of_lt B.1 B.2.1, Int.emod_eq_of_lt B.2.2.1 B.2.2.2]
      exact hr
  have p1 := hp.pos
  obtain ⟨a, ha⟩ : ∃ a : Nat, p = a := ⟨p.toNat, by omega⟩
  obtain ⟨b, hb⟩ : ∃ b : Nat, s = b := ⟨s.toNat, by omega⟩
  subst ha hb
  have hg := inv_gcd O.pos a b hpi hs
  have hap : 0 < a := by omega
  have gle : Nat.gcd a b ≤ a := Nat.le_of_dvd hap (Nat.gcd_dvd_left a b)
  have gpos : 0 < Nat.gcd a b := Nat.gcd_pos_of_pos_left b hap
  have gN : N % (Nat.gcd a b : Int) = 0 := by
    have h1 : (a : Int) ∣ N := Int.dvd_of_emod_eq_zero hp.dvd
    have h2 : ((Nat.gcd a b : Nat) : Int) ∣ (a : Int) := Int.natCast_dvd_natCast.mpr (Nat.gcd_dvd_left a b)
    exact Int.emod_eq_zero_of_dvd (Int.dvd_trans h2 h1)
  by_cases h : Nat.gcd a b = a
  · have : a ∣ b := by rw [← h]; exact Nat.gcd_dvd_right a b
    exact Int.emod_eq_zero_of_dvd (Int.natCast_dvd_natCast.mpr this)
  · exfalso
    exact hp.least (Nat.gcd a b) (by omega) (by omega) gN (turn_of_inv O hg)
end L2.Jw
set_option Elab.async false
set_option linter.all false
set_option maxRecDepth 100000
set_option maxHeartbeats 4000000
namespace L2.Jw
open PySem PySem.Spec PyProof.Rows
/-! ## rows as the law draws them -/
def rowsG (N span : Int) (L : Nat) (bo : Int × Int) : List (Int × Int) := (List.range L).map fun l : Nat => (bo.1 + l * span, (bo.1 + l * span + bo.2) % N)
structure Drawn' (N span : Int) (L : Nat) (bs offs : List Int) : Prop where
  hN : N = L * span
  hL : 0 < L
  hs : 0 < span
  ne : 0 < bs.length
  len : offs.length = bs.length
  srt : bs.Pairwise (· < ·)
  bnd : ∀ b ∈ bs, 0 ≤ b ∧ b < span
  off : ∀ (k : Nat) b o nb, bs[k]? = some b → offs[k]? = some o → bs[(k + 1) % bs.length]? = some nb → 0 ≤ o ∧ o < (nb - b - 1) % span + 1
  few : bs.length * L ≤ 12
theorem mem_rowsG {N span : Int} {L : Nat} {bo r : Int × Int} : r ∈ rowsG N span L bo ↔ ∃ l : Nat, l < L ∧ r = (bo.1 + l * span, (bo.1 + l * span + bo.2) % N) := by
  unfold rowsG
  rw [List.mem_map]
  constructor
  · rintro ⟨l, h1, h2⟩
    exact ⟨l, List.mem_range.mp h1, h2.symm⟩
  · rintro ⟨l, h1, h2⟩
    exact ⟨l, List.mem_range.mpr h1, h2.symm⟩
section
variable {N span : Int} {L : Nat} {bs offs : List Int}
theorem mul_ge {t span : Int} (hs : 0 < span) (ht : 1 ≤ t) : span ≤ t * span := by
  have := Int.mul_le_mul_of_nonneg_right ht (Int.le_of_lt hs)
  omega
theorem mul_le {t span : Int} (hs : 0 < span) (ht : t ≤ -1) : t * span ≤ -span := by
  have := Int.mul_le_mul_of_nonneg_right ht (Int.le_of_lt hs)
  omega
/-- what comes behind b_k comes behind its whole stretch -/
theorem gap_ge (D : Drawn' N span L bs offs) {k j : Nat} {b c nb t : Int} (hb : bs[k]? = some b) (hc : bs[j]? = some c) (hn : bs[(k + 1) % bs.length]? = some nb) (hd : 0 < c - b + t * span) : (nb - b - 1) % span + 1 ≤ c - b + t * span := by
  have hs := D.hs
  have Bb := D.bnd b (List.mem_of_getElem? hb)
  have Bc := D.bnd c (List.mem_of_getElem? hc)
  have Bn := D.bnd nb (List.mem_of_getElem? hn)
  obtain ⟨hk, eb⟩ := List.getElem?_eq_some_iff.mp hb
  obtain ⟨hj, ec⟩ := List.getElem?_eq_some_iff.mp hc
  have lt : ∀ {i i' : Nat} (h : i < i') (h' : i' < bs.length), bs[i] < bs[i'] := fun {i i'} h h' => List.pairwise_iff_getElem.mp D.srt i i' (by omega) h' h
  have tc : t ≤ -1 ∨ t = 0 ∨ 1 ≤ t := by omega
  by_cases hlast : k + 1 < bs.length
  · rw [Nat.mod_eq_of_lt hlast] at hn
    obtain ⟨_, en⟩ := List.getElem?_eq_some_iff.mp hn
    have h1 : b < nb := by rw [← eb, ← en]; exact lt (Nat.lt_succ_self k) hlast
    have e1 : (nb - b - 1) % span = nb - b - 1 := Int.emod_eq_of_lt (by omega) (by omega)
    rw [e1]
    rcases tc with ht | ht | ht
    · have := mul_le hs ht
      omega
    · subst ht
      rw [Int.zero_mul] at hd ⊢
      have hjk : k + 1 ≤ j := by
        rcases Nat.lt_or_ge k j with z | z
        · exact z
        · exfalso
          rcases Nat.eq_or_lt_of_le z with y | y
          · subst y
            rw [eb] at ec
            omega
          · have := lt y hk
            rw [eb, ec] at this
            omega
      have : nb ≤ c := by
        rcases Nat.eq_or_lt_of_le hjk with y | y
        · subst y
          rw [← ec, ← en]
          exact Int.le_refl _
        · have := lt y hj
          rw [en, ec] at this
          omega
      omega
    · have := mul_ge hs ht
      omega
  · have hk1 : k + 1 = bs.length := by omega
    rw [hk1, Nat.mod_self] at hn
    obtain ⟨h0, en⟩ := List.getElem?_eq_some_iff.mp hn
    have hnb : nb ≤ b := by
      rcases Nat.eq_zero_or_pos k with y | y
      · subst y
        rw [← eb, ← en]
        exact Int.le_refl _
      · have := lt y hk
        rw [en, eb] at this
        omega
    have hcb : c ≤ b := by
      rcases Nat.eq_or_lt_of_le (show j ≤ k by omega) with y | y
      · subst y
        rw [eb] at ec
        omega
      · have := lt y hk
        rw [ec, eb] at this
        omega
    have hnc : nb ≤ c := by
      rcases Nat.eq_zero_or_pos j with y | y
      · subst y
        rw [← ec, ← en]
        exact Int.le_refl _
      · have := lt y hj
        rw [en, ec] at this
        omega
    have e1 : (nb - b - 1) % span = nb - b - 1 + span := by
      rw [← Int.add_emod_right]
      exact Int.emod_eq_of_lt (by omega) (by omega)
    rw [e1]
    rcases tc with ht | ht | ht
    · have := mul_le hs ht
      omega
    · subst ht
      rw [Int.zero_mul] at hd
      omega
    · have := mul_ge hs ht
      omega
theorem mem_rows {bo r : Int × Int} : r ∈ ((bs.zip offs).flatMap (rowsG N span L)).mergeSort leP ↔ ∃ (k : Nat) (b o : Int) (l : Nat), bs[k]? = some b ∧ offs[k]? = some o ∧ l < L ∧ r = (b + l * span, (b + l * span + o) % N) := by
  rw [(List.mergeSort_perm _ leP).mem_iff, List.mem_flatMap]
  constructor
  · rintro ⟨⟨b, o⟩, h1, h2⟩
    obtain ⟨l, h3, h4⟩ := mem_rowsG.mp h2
    obtain ⟨k, hk, e⟩ := List.getElem_of_mem h1
    have e1 : (bs.zip offs)[k]? = some (b, o) := by rw [List.getElem?_eq_getElem hk, e]
    rw [List.getElem?_zip_eq_some] at e1
    exact ⟨k, b, o, l, e1.1, e1.2, h3, h4⟩
  · rintro ⟨k, b, o, l, h1, h2, h3, h4⟩
    refine ⟨(b, o), List.mem_of_getElem? (i := k) ?_, mem_rowsG.mpr ⟨l, h3, h4⟩⟩
    rw [List.getElem?_zip_eq_some]
    exact ⟨h1, h2⟩
theorem rows_good (D : Drawn' N span L bs offs) : GoodRows N (((bs.zip offs).flatMap (rowsG N span L)).mergeSort leP) ∧ (((bs.zip offs).flatMap (rowsG N span L)).mergeSort leP).length = bs.length * L ∧
    Inv' N (((bs.zip offs).flatMap (rowsG N span L)).mergeSort leP) span ∧ Ord N (((bs.zip offs).flatMap (rowsG N span L)).mergeSort leP) := by
  have hs := D.hs
  have hL := D.hL
  have hNN := D.hN
  have hN : 0 < N := by rw [hNN]; exact Int.mul_pos (by omega) hs
  have hzl : (bs.zip offs).length = bs.length := by rw [List.length_zip, D.len, Nat.min_self]
  have hlen : (((bs.zip offs).flatMap (rowsG N span L)).mergeSort leP).length = bs.length * L := by
    rw [List.length_mergeSort, List.length_flatMap]
    have : (bs.zip offs).map (fun a => (rowsG N span L a).length) = List.replicate (bs.zip offs).length L := by
      rw [List.eq_replicate_iff]
      refine ⟨by rw [List.length_map], fun b hb => ?_⟩
      obtain ⟨a, _, rfl⟩ := List.mem_map.mp hb
      unfold rowsG
      rw [List.length_map, List.length_range]
    rw [this, List.sum_replicate_nat, hzl]
  -- l * span, l below L
  have lS : ∀ {l : Nat}, l < L → 0 ≤ (l : Int) * span ∧ (l : Int) * span + span ≤ N := fun {l} h => by
    have h1 : 0 ≤ (l : Int) * span := Int.mul_nonneg (by omega) (by omega)
    have h2 : ((l : Int) + 1) * span ≤ (L : Int) * span := Int.mul_le_mul_of_nonneg_right (by omega) (by omega)
    rw [Int.add_mul, Int.one_mul, ← hNN] at h2
    exact ⟨h1, h2⟩
  have nd1 : ((bs.zip offs).flatMap (rowsG N span L)).Pairwise fun x y => x.1 ≠ y.1 := by
    rw [List.pairwise_flatMap]
    refine ⟨fun a ha => ?_, ?_⟩
    · unfold rowsG
      rw [List.pairwise_map]
      refine (List.nodup_iff_pairwise_ne.mp List.nodup_range).imp fun {x y} hne e => ?_
      have e' : a.1 + (x : Int) * span = a.1 + (y : Int) * span := e
      have : (x : Int) * span = (y : Int) * span := by omega
      have := Int.eq_of_mul_eq_mul_right (by omega) this
      omega
    · have hz : ((bs.zip offs).map Prod.fst).Pairwise (· < ·) := by
        rw [List.map_fst_zip (by rw [D.len]; exact Nat.le_refl _)]
        exact D.srt
      rw [List.pairwise_map] at hz
      refine hz.imp_of_mem fun {a a'} ha ha' hlt x hx y hy e => ?_
      obtain ⟨l, h1, rfl⟩ := mem_rowsG.mp hx
      obtain ⟨l', h1', rfl⟩ := mem_rowsG.mp hy
      have Ba := D.bnd a.1 (List.of_mem_zip ha).1
      have Ba' := D.bnd a'.1 (List.of_mem_zip ha').1
      have e' : a.1 + (l : Int) * span = a'.1 + (l' : Int) * span := e
      have e2 : a'.1 - a.1 = ((l : Int) - (l' : Int)) * span := by rw [Int.sub_mul]; omega
      have tc : (l : Int) - (l' : Int) ≤ 0 ∨ 1 ≤ (l : Int) - (l' : Int) := by omega
      rcases tc with z | z
      · have := Int.mul_le_mul_of_nonneg_right z (Int.le_of_lt hs)
        omega
      · have := mul_ge hs z
        omega
  have nd2 : (((bs.zip offs).flatMap (rowsG N span L)).mergeSort leP).Pairwise fun x y => x.1 ≠ y.1 := (List.mergeSort_perm _ leP).symm.pairwise nd1 fun h e => h e.symm
  have srt := sorted_pairs ((bs.zip offs).flatMap (rowsG N span L))
  have asc : (((bs.zip offs).flatMap (rowsG N span L)).mergeSort leP).Pairwise fun x y => x.1 < y.1 := by
    have := srt.and nd2
    refine this.imp fun {x y} h => ?_
    have h1 := h.1
    unfold leP at h1
    simp only [decide_eq_true_eq] at h1
    have := h.2
    omega
  have memr : ∀ {r}, r ∈ ((bs.zip offs).flatMap (rowsG N span L)).mergeSort leP ↔ ∃ (k : Nat) (b o : Int) (l : Nat), bs[k]? = some b ∧ offs[k]? = some o ∧ l < L ∧ r = (b + l * span, (b + l * span + o) % N) := fun {r} => mem_rows (bo := r)
  have bnd : ∀ r ∈ ((bs.zip offs).flatMap (rowsG N span L)).mergeSort leP, 0 ≤ r.1 ∧ r.1 < N ∧ 0 ≤ r.2 ∧ r.2 < N := fun r hr => by
    obtain ⟨k, b, o, l, h1, h2, h3, rfl⟩ := memr.mp hr
    have B := D.bnd b (List.mem_of_getElem? h1)
    have S := lS h3
    exact ⟨by show 0 ≤ b + l * span; omega, by show b + l * span < N; omega, Int.emod_nonneg _ (by omega), Int.emod_lt_of_pos _ hN⟩
  have nxt : ∀ k : Nat, ∃ nb, bs[(k + 1) % bs.length]? = some nb := fun k => ⟨_, List.getElem?_eq_getElem (Nat.mod_lt _ D.ne)⟩
  generalize hR : ((bs.zip offs).flatMap (rowsG N span L)).mergeSort leP = rows at *
  have key : ∀ a ∈ rows, ∀ b', (∃ r ∈ rows, b' = r.1 ∨ b' = r.1 + N) → a.1 < b' → a.1 + (a.2 - a.1) % N < b' := fun a ha b' ⟨r, hr, hb'⟩ hlt => by
    obtain ⟨k, b, o, l, h1, h2, h3, rfl⟩ := memr.mp ha
    obtain ⟨j, c, o', l', g1, g2, g3, rfl⟩ := memr.mp hr
    obtain ⟨nb, hnb⟩ := nxt k
    have O := D.off k b o nb h1 h2 hnb
    have so : (nb - b - 1) % span + 1 ≤ span := by have := Int.emod_lt_of_pos (nb - b - 1) hs; omega
    have S := lS h3
    have e1 : ((b + l * span + o) % N - (b + l * span)) % N = o := by
      rw [Int.emod_sub_emod, show b + l * span + o - (b + l * span) = o by omega]
      exact Int.emod_eq_of_lt O.1 (by omega)
    show b + l * span + ((b + l * span + o) % N - (b + l * span)) % N < b'
    rw [e1]
    have hlt' : b + l * span < b' := hlt
    obtain ⟨t, ht⟩ : ∃ t : Int, b' - (b + l * span) = c - b + t * span := by
      rcases hb' with z | z
      · refine ⟨(l' : Int) - l, ?_⟩
        rw [z, Int.sub_mul]
        show c + l' * span - (b + l * span) = _
        omega
      · refine ⟨(l' : Int) - l + L, ?_⟩
        rw [z, Int.add_mul, Int.sub_mul, hNN]
        show c + l' * span + L * span - (b + l * span) = _
        omega
    have := gap_ge D h1 g1 hnb (t := t) (by omega)
    omega
  refine ⟨⟨?_, ?_, bnd, ?_, ?_⟩, hlen, ?_, ⟨hN, bnd, srt, ?_⟩⟩
  · rw [hlen]
    exact Nat.mul_pos D.ne hL
  · rw [hlen]
    exact D.few
  · intro i a b ha hb
    obtain ⟨h1, e1⟩ := List.getElem?_eq_some_iff.mp ha
    obtain ⟨h2, e2⟩ := List.getElem?_eq_some_iff.mp hb
    rw [← e1, ← e2]
    exact List.pairwise_iff_getElem.mp asc i (i + 1) h1 h2 (Nat.lt_succ_self i)
  · intro i a ha
    have ham := List.mem_of_getElem? ha
    cases hb : rows[i + 1]? with
    | some b =>
      obtain ⟨h1, e1⟩ := List.getElem?_eq_some_iff.mp ha
      obtain ⟨h2, e2⟩ := List.getElem?_eq_some_iff.mp hb
      refine key a ham b.1 ⟨b, List.mem_of_getElem? hb, .inl rfl⟩ ?_
      rw [← e1, ← e2]
      exact List.pairwise_iff_getElem.mp asc i (i + 1) h1 h2 (Nat.lt_succ_self i)
    | none =>
      have hne : rows ≠ [] := List.ne_nil_of_mem ham
      obtain ⟨r0, rest, e⟩ : ∃ r0 rest, rows = r0 :: rest := by
        cases rows with
        | nil => exact absurd rfl hne
        | cons r0 rest => exact ⟨r0, rest, rfl⟩
      have h0 : r0 ∈ rows := by rw [e]; exact List.mem_cons_self ..
      have hh : rows.headD (0, 0) = r0 := by rw [e]; rfl
      show a.1 + (a.2 - a.1) % N < (rows.headD (0, 0)).1 + N
      rw [hh]
      refine key a ham _ ⟨r0, h0, .inr rfl⟩ ?_
      have := bnd a ham
      have := bnd r0 h0
      omega
  · intro r hr
    obtain ⟨k, b, o, l, h1, h2, h3, rfl⟩ := memr.mp hr
    have B := D.bnd b (List.mem_of_getElem? h1)
    have S := lS h3
    refine memr.mpr ?_
    unfold sh
    by_cases h : l + 1 < L
    · have S' := lS h
      have e3 : ((l + 1 : Nat) : Int) * span = l * span + span := by rw [show ((l + 1 : Nat) : Int) = (l : Int) + 1 by omega, Int.add_mul, Int.one_mul]
      refine ⟨k, b, o, l + 1, h1, h2, h, Prod.ext ?_ ?_⟩
      · show (b + l * span + span) % N = b + ((l + 1 : Nat) : Int) * span
        rw [e3] at S' ⊢
        rw [Int.emod_eq_of_lt (by omega) (by omega)]
        omega
      · show ((b + l * span + o) % N + span) % N = (b + ((l + 1 : Nat) : Int) * span + o) % N
        rw [Int.emod_add_emod, e3]
        congr 1
        omega
    · have hl : l + 1 = L := by omega
      have e3 : (l : Int) * span + span = N := by rw [hNN, ← hl, show ((l + 1 : Nat) : Int) = (l : Int) + 1 by omega, Int.add_mul, Int.one_mul]
      refine ⟨k, b, o, 0, h1, h2, hL, Prod.ext ?_ ?_⟩
      · show (b + l * span + span) % N = b + ((0 : Nat) : Int) * span
        rw [show b + l * span + span = b + N by omega, Int.add_emod_right, Int.emod_eq_of_lt (by omega) (by omega)]
        omega
      · show ((b + l * span + o) % N + span) % N = (b + ((0 : Nat) : Int) * span + o) % N
        rw [Int.emod_add_emod, show b + l * span + o + span = b + o + N by omega, Int.add_emod_right]
        congr 1
        omega
  · exact List.nodup_iff_pairwise_ne.mpr (asc.imp fun {x y} h e => by rw [e] at h; exact Int.lt_irrefl _ h)
end
end L2.Jw
set_option Elab.async false
set_option linter.all false
set_option maxRecDepth 100000
set_option maxHeartbeats 4000000
namespace L2.Jw
open PySem PySem.Spec PyProof.Rows
/-! ## plain laws of the parting -/
theorem mem_dedup {α : Type} [DecidableEq α] {x : α} : ∀ {l : List α}, x ∈ dd l ↔ x ∈ l
  | [] => Iff.rfl
  | y :: l => by
    have ih := mem_dedup (x := x) (l := l)
    show x ∈ (if y ∈ dd l then dd l else y :: dd l) ↔ _
    by_cases h : y ∈ dd l
    · rw [if_pos h, List.mem_cons, ih]
      constructor
      · exact .inr
      · rintro (z | z)
        · rw [z]; exact mem_dedup.mp h
        · exact z
    · rw [if_neg h, List.mem_cons, List.mem_cons, ih]
theorem nodup_dedup {α : Type} [DecidableEq α] : ∀ l : List α, (dd l).Nodup
  | [] => List.nodup_nil
  | y :: l => by
    show (if y ∈ dd l then dd l else y :: dd l).Nodup
    by_cases h : y ∈ dd l
    · rw [if_pos h]; exact nodup_dedup l
    · rw [if_neg h]; exact List.nodup_cons.mpr ⟨h, nodup_dedup l⟩
theorem mem_canon {l : List Pr} {p : Pr} : p ∈ canon l ↔ p ∈ l := by
  unfold canon
  rw [(List.mergeSort_perm _ leP).mem_iff, mem_dedup]
theorem nodup_canon (l : List Pr) : (canon l).Nodup := (List.mergeSort_perm _ leP).nodup_iff.mpr (nodup_dedup l)
theorem sorted_canon (l : List Pr) : (canon l).Pairwise fun a b => leP a b = true := sorted_pairs _
theorem canon_uniq {l m : List Pr} (hn : m.Nodup) (hs : m.Pairwise fun a b => leP a b = true) (h : ∀ p, p ∈ m ↔ p ∈ l) : m = canon l := by
  refine sorted_uniq ?_ hs (sorted_canon l)
  exact (List.perm_ext_iff_of_nodup hn (nodup_canon l)).mpr fun p => by rw [h, mem_canon]
theorem canon_congr {l m : List Pr} (h : ∀ p, p ∈ l ↔ p ∈ m) : canon l = canon m := canon_uniq (nodup_canon l) (sorted_canon l) fun p => by rw [mem_canon, h]
theorem mem_canonI {l : List Int} {x : Int} : x ∈ canonI l ↔ x ∈ l := by
  unfold canonI
  rw [(List.mergeSort_perm _ _).mem_iff, mem_dedup]
theorem nodup_canonI (l : List Int) : (canonI l).Nodup := (List.mergeSort_perm _ _).nodup_iff.mpr (nodup_dedup l)
theorem sorted_canonI (l : List Int) : (canonI l).Pairwise (· ≤ ·) := by
  have := List.pairwise_mergeSort (le := fun a b : Int => decide (a ≤ b)) (fun a b c h1 h2 => by simp only [decide_eq_true_eq] at *; omega) (fun a b => by simp only [Bool.or_eq_true, decide_eq_true_eq]; omega) (dd l)
  exact this.imp fun h => by simpa using h
theorem canonI_uniq {l m : List Int} (hn : m.Nodup) (hs : m.Pairwise (· ≤ ·)) (h : ∀ x, x ∈ m ↔ x ∈ l) : m = canonI l :=
  List.Perm.eq_of_pairwise (fun a b _ _ h1 h2 => Int.le_antisymm h1 h2) hs (sorted_canonI l) ((List.perm_ext_iff_of_nodup hn (nodup_canonI l)).mpr fun x => by rw [h, mem_canonI])
end L2.Jw
set_option Elab.async false
set_option linter.all false
set_option maxRecDepth 100000
set_option maxHeartbeats 4000000
namespace L2.Jw
open PySem PySem.Spec PyProof.Rows
theorem rowAt_snoc (pl : Int) : ∀ (l : List (Int × Int)) (r q : Int × Int), rowAt pl r (l ++ [q]) = if q.1 ≤ pl then q else rowAt pl r l
  | [], r, q => by
    show (if q.1 ≤ pl then rowAt pl q [] else rowAt pl r []) = _
    rfl
  | a :: l, r, q => by
    show (if a.1 ≤ pl then rowAt pl a (l ++ [q]) else rowAt pl r (l ++ [q])) = if q.1 ≤ pl then q else (if a.1 ≤ pl then rowAt pl a l else rowAt pl r l)
    by_cases h : a.1 ≤ pl
    · rw [if_pos h, if_pos h, rowAt_snoc pl l a q]
    · rw [if_neg h, if_neg h, rowAt_snoc pl l r q]
section
variable {P : Program} {w : World} {K : PySem.W.Frag} {mg : Str → Option Value} {base : Heap} {c : Cs}
/-- a property's getter -/
theorem pr_0 {C : Addr} {m q : Str} {st : Stmt} {N : List Str} {k : Nat} {sp : Sp} (D : PrAt K C m q st) (S : FnScope N ["self"] (defScope st)) (hb : Bnd0 m q st ["self"]) (len : ∀ vs H Q E, sp vs H Q E → vs.length = 1)
    (hbody : ∀ (f : Addr) (cdv : Value) (A : Around) (outer : List Env) (s : Shared) (H : Hp) (vs : List V) (Q : VK) (E : XK), Room k (A.deeper (envOfC q (defScope st) s.heap.objs.size f cdv)) → sp vs H Q E →
      ∃ t, PSs (cxOf CX0 P w K mg base N q (defScope st) f cdv A outer s H E).nox (defBody st) t ∧ t { nx := fun _ H' => Q .non H', rt := Q } (start N vs) H) :
    ∃ p g fd, PropOf K C m p g ∧ FnOk P w K mg base CX0 (k + 1) g fd ["self"] sp ∧ Binds K fd ["self"] [] := by
  obtain ⟨p, g, fd, hp, F⟩ := D
  exact ⟨p, g, fd, hp, F.ok S len (fun cdv A outer s H vs Q E hr h => by
    obtain ⟨t, ht, hq⟩ := hbody g cdv A outer s H vs Q E hr h
    exact ⟨t, ht.nox, hq⟩), F.bindsN hb⟩
/-- a class's making, all its arguments given -/
theorem mk_0 {C : Addr} {x q : Str} {st : Stmt} {N ps : List Str} {k : Nat} {sp : Sp} (hm : mg x = some (.ref C)) (D : MkAt K C q st []) (S : FnScope N ps (defScope st)) (hb : Bnd0 "__init__" q st ps) (len : ∀ vs H Q E, sp vs H Q E → vs.length = ps.length)
    (hbody : ∀ (f : Addr) (cdv : Value) (A : Around) (outer : List Env) (s : Shared) (H : Hp) (vs : List V) (Q : VK) (E : XK), Room k (A.deeper (envOfC q (defScope st) s.heap.objs.size f cdv)) → sp vs H Q E →
      ∃ t, PSs (cxOf CX0 P w K mg base N q (defScope st) f cdv A outer s H E).nox (defBody st) t ∧ t { nx := fun _ H' => Q .non H', rt := Q } (start N vs) H) : Mkr P w K mg base CX0 (k + 1) x C sp := by
  obtain ⟨f, fd, e, F⟩ := D
  exact ⟨f, hm, e, fnr_0 F S hb len (hbody f)⟩
/-! ### Turning -/
def turnFs (N : Int) (q : Addr) (per : Int) : List (Str × V) := [("around", .int N), ("rows", .ref q), ("_period", .int per)]
structure TurnAt (K : PySem.W.Frag) (c : Cs) (H : Hp) (a : Addr) (N : Int) (rows : List (Int × Int)) (per : Int) : Prop where
  ob : ∃ dx q, H a = some (.ins c.Tu dx (turnFs N q per)) ∧ Dp K H (.ref q) (.tuple (rows.map prD))
theorem TurnAt.same {H H' : Hp} {a : Addr} {N per : Int} {rows : List (Int × Int)} (h : TurnAt K c H a N rows per) (e : Same H H') : TurnAt K c H' a N rows per := by
  obtain ⟨dx, q, h1, h2⟩ := h.ob
  exact ⟨dx, q, e _ _ h1, dp_same e _ _ h2⟩
def spTurnI (K : PySem.W.Frag) (c : Cs) : Sp := fun vs H Q _ => ∃ (p dx : Addr) (N : Int) (a : Addr) (xs : List V) (rows : List (Int × Int)), vs = [.ref p, .int N, .ref a] ∧ H p = some (.ins c.Tu dx []) ∧ 2 ≤ N ∧ N ≤ 360 ∧ H a = some (.lst xs) ∧ DpAll K H xs (rows.map prD) ∧ GoodRows N rows ∧
  ∀ H' per, But p H H' → PeriodOf N rows per → TurnAt K c H' p N rows per → Q .non H'
abbrev s_Turning___init__ : Stmt := inC 26 0
theorem c_Turning___init__ : FnScope ["self", "around", "rows"] ["self", "around", "rows"] (defScope s_Turning___init__) := ⟨rfl, rfl, rfl, by decide +kernel, rfl, by decide +kernel, by decide +kernel⟩
theorem b_Turning___init__ : Bnd0 "__init__" "Turning.__init__" s_Turning___init__ ["self", "around", "rows"] := fun _ _ _ _ _ _ us hl => match us, hl with | [_, _, _], _ => rfl
theorem m_Turning (T : Tx K mg c) : Mkr P w K mg base CX0 5 "Turning" c.Tu (spTurnI K c) := by
  refine mk_0 T.mg_Tu T.I_Tu c_Turning___init__ b_Turning___init__ (fun vs H Q E h => ?_) fun f cdv A outer s H vs Q E hr h => ?_
  · obtain ⟨p, dx, N, a, xs, rows, rfl, _⟩ := h
    rfl
  · obtain ⟨p, dx, N, a, xs, rows, rfl, hp, n1, n2, ha, hd, G, q⟩ := h
    refine ⟨_, (pss_cons (ps_expr (pe_D (d_check_round T) (hr.mono (by first | decide | omega)) rfl pass0 (pa_cons (pv 1) pa_nil)))
      (pss_cons (ps_fld (pv 0) (pv 1) rfl)
      (pss_cons (ps_fld (pv 0) (pe_D (d_checked_rows T) (hr.mono (by first | decide | omega)) rfl pass0 (pa_cons (pv 1) (pa_cons (pv 2) pa_nil))) rfl)
      (pss_one (ps_fld (pv 0) (pe_D (d_least_period T) (hr.mono (by first | decide | omega)) rfl pass0 (pa_cons (pv 1) (pa_cons (pe_fld (pv 0) rfl) pa_nil))) rfl))))), ?_⟩
    have hap : a ≠ p := ne_of ha hp (by intro z; cases z)
    -- check_round(around); self.around = around
    refine ⟨_, rfl, N, rfl, n1, n2, _, rfl, _, rfl, p, c.Tu, dx, _, rfl, hp, T.cl_Tu, T.n_Tu_around, (by show 0 < 1000; decide), ?_⟩
    have b1 : But p H (upd H p (.ins c.Tu dx (putF "around" (.int N) []))) := but_upd
    have hd1 : DpAll K (upd H p (.ins c.Tu dx (putF "around" (.int N) []))) xs (rows.map prD) := by
      refine prs_tkeep (tkeep_upd hp (fun xs z => by cases z) (fun a b z => by cases z)) hd
    -- self.rows = checked_rows(around, rows)
    refine ⟨_, rfl, _, rfl, N, a, xs, rows, rfl, n1, n2, b1 _ _ ha hap, hd1, G, fun H2 t e2 ht => ⟨_, rfl, p, c.Tu, dx, _, rfl, e2 _ _ upd_same, T.cl_Tu, T.n_Tu_rows, (by show 1 < 1000; decide), ?_⟩⟩
    -- self._period = least_period(around, self.rows)
    have k3 : ∀ o, TKeep K H2 (upd H2 p o) := fun o => tkeep_upd (e2 _ _ upd_same) (fun xs z => by cases z) (fun a b z => by cases z)
    have ht3 : ∀ o, Dp K (upd H2 p o) (.ref t) (.tuple (rows.map prD)) := fun o => by
      obtain ⟨t', ys, et, hs, hda⟩ := dp_tup ht
      cases et
      exact .tup (k3 o _ _ hs) (prs_tkeep (k3 o) hda)
    refine ⟨_, rfl, _, rfl, p, c.Tu, dx, _, _, rfl, upd_same, T.cl_Tu, T.n_Tu_rows, (by kernel_rfl), N, .ref t, rows, rfl, by omega, by omega, ht3 _, (by have := G.hi; omega), fun H4 per e4 hper => ⟨_, rfl, p, c.Tu, dx, _, rfl, e4 _ _ upd_same, T.cl_Tu, T.n_Tu__period, (by show 2 < 1000; decide), ?_⟩⟩
    refine q _ per (((b1.trans e2.but).trans but_upd).trans (e4.but.trans but_upd)) hper ⟨dx, t, Eq.trans upd_same (congrArg (fun l => some (HO.ins c.Tu dx l)) (by unfold turnFs; kernel_rfl)), ?_⟩
    have k5 : ∀ o, TKeep K H4 (upd H4 p o) := fun o => tkeep_upd (e4 _ _ upd_same) (fun xs z => by cases z) (fun a b z => by cases z)
    obtain ⟨t', ys, et, hs, hda⟩ := dp_tup (dp_same e4 _ _ (ht3 _))
    cases et
    exact .tup (k5 _ _ _ hs) (prs_tkeep (k5 _) hda)
def spTurnPer (K : PySem.W.Frag) (c : Cs) : Sp := fun vs H Q _ => ∃ (p : Addr) (N : Int) (rows : List (Int × Int)) (per : Int), vs = [.ref p] ∧ TurnAt K c H p N rows per ∧ Q (.int per) H
abbrev s_Turning_period : Stmt := inC 26 2
theorem c_Turning_period : FnScope ["self"] ["self"] (defScope s_Turning_period) := ⟨rfl, rfl, rfl, by decide +kernel, rfl, by decide +kernel, by decide +kernel⟩
theorem b_Turning_period : Bnd0 "period" "Turning.period" s_Turning_period ["self"] := fun _ _ _ _ _ _ us hl => match us, hl with | [_], _ => rfl
theorem p_Turning_period (T : Tx K mg c) : ∃ p g fd, PropOf K c.Tu "period" p g ∧ FnOk P w K mg base CX0 1 g fd ["self"] (spTurnPer K c) ∧ Binds K fd ["self"] [] := by
  refine pr_0 T.P_Tu_period c_Turning_period b_Turning_period (fun vs H Q E h => ?_) fun f cdv A outer s H vs Q E hr h => ?_
  · obtain ⟨p, N, rows, per, rfl, _⟩ := h
    rfl
  · obtain ⟨p, N, rows, per, rfl, ⟨dx, q, h1, h2⟩, k⟩ := h
    refine ⟨_, (pss_one (ps_ret (pe_fld (pv 0) rfl))), ?_⟩
    exact ⟨_, rfl, p, c.Tu, dx, _, _, rfl, h1, T.cl_Tu, T.n_Tu__period, (by unfold turnFs; kernel_rfl), k⟩
def spLifted (K : PySem.W.Frag) (c : Cs) : Sp := fun vs H Q _ => ∃ (p : Addr) (x N : Int) (rows : List (Int × Int)) (per : Int), vs = [.ref p, .int x] ∧ TurnAt K c H p N rows per ∧ 0 < N ∧ N ≤ 1000 ∧ 0 < rows.length ∧ ∀ H', Same H H' → Q (.int (liftF N rows x)) H'
abbrev s_Turning_lifted : Stmt := inC 26 5
theorem c_Turning_lifted : FnScope ["self", "x", "lap", "place", "begin", "rest", "row"] ["self", "x"] (defScope s_Turning_lifted) := ⟨rfl, rfl, rfl, by decide +kernel, rfl, by decide +kernel, by decide +kernel⟩
theorem b_Turning_lifted : Bnd0 "lifted" "Turning.lifted" s_Turning_lifted ["self", "x"] := fun _ _ _ _ _ _ us hl => match us, hl with | [_, _], _ => rfl
theorem e_Turning_lifted (T : Tx K mg c) : Me P w K mg base CX0 2 c.Tu "lifted" (spLifted K c) := by
  refine me_0 T.cl_Tu T.M_Tu_lifted c_Turning_lifted b_Turning_lifted (fun vs H Q E h => ?_) fun f cdv A outer s H vs Q E hr h => ?_
  · obtain ⟨p, x, N, rows, per, rfl, _⟩ := h
    rfl
  · obtain ⟨p, x, N, rows, per, rfl, Ta, hN, hN2, h0, k⟩ := h
    obtain ⟨dx, q, h1, h2⟩ := Ta.ob
    obtain ⟨q', ys, eq', hs, hda⟩ := dp_tup h2
    cases eq'
    have hl : ys.length = rows.length := by have := dpAll_len hda; rw [List.length_map] at this; exact this
    obtain ⟨y0, hy0, hd0⟩ := dpAll_at (i := 0) hda (List.getElem?_eq_getElem h0)
    obtain ⟨q0, rfl, hq0⟩ := dp_pr hd0
    have hh : rows.headD (0, 0) = rows[0] := by
      cases rows with
      | nil => cases h0
      | cons z zs => rfl
    refine ⟨_, (pss_cons (ps_if (pt_not (pt_val (pe_D (d_is_integer T) (hr.mono (by first | decide | omega)) rfl pass0 (pa_cons (pv 1) pa_nil)))) (pss_one ps_never) pss_nil)
      (pss_cons (ps_asg (pe_callB call_divmod (by rfl) T.divmod (by decide +kernel) (pa_cons (pv 1) (pa_cons (pe_fld (pv 0) rfl) pa_nil))) (pg_tup rfl (pgs_cons (pg_name (i := 2) c_Turning_lifted.nd rfl (Or.inl rfl)) (pgs_cons (pg_name (i := 3) c_Turning_lifted.nd rfl (Or.inl rfl)) pgs_nil))))
      (pss_cons (ps_if (pt_cmpR op_lt (pv 3) (pe_ix (r := rIxT K) ix_tup (pe_ix (r := rIxT K) ix_tup (pe_fld (pv 0) rfl) pe_int (fun _ _ => rfl)) pe_int (fun _ _ => rfl)) (nomark _)) (pss_one (ps_par (i := 2) (j := 3) (by rfl) c_Turning_lifted.nd rfl rfl (by decide) rfl rfl (pa_cons (pe_op op_sub (pv 2) pe_int) (pa_cons (pe_op op_add (pv 3) (pe_fld (pv 0) rfl)) pa_nil)) (by rfl))) pss_nil)
      (pss_cons (ps_asg (pe_ix (r := rIxT K) ix_tup (pe_fld (pv 0) rfl) pe_int (fun _ _ => rfl)) (pg_tup rfl (pgs_cons (pg_name (i := 4) c_Turning_lifted.nd rfl (Or.inl rfl)) (pgs_cons (pg_name (i := 5) c_Turning_lifted.nd rfl (Or.inl rfl)) pgs_nil))))
      (pss_cons (ps_for PassesOwn.never rfl (pi_tup (pe_fld (pv 0) rfl)) (pg_name (i := 6) c_Turning_lifted.nd rfl (Or.inl rfl))
      (pss_one (ps_if (pt_cmpR op_le (pe_ix (r := rIxT K) ix_tup (pv 6) pe_int (fun _ _ => rfl)) (pv 3) (nomark _)) (pss_one (ps_asg (pv 6) (pg_tup rfl (pgs_cons (pg_name (i := 4) c_Turning_lifted.nd rfl (Or.inl rfl)) (pgs_cons (pg_name (i := 5) c_Turning_lifted.nd rfl (Or.inl rfl)) pgs_nil))))) pss_nil)))
      (pss_one (ps_ret (pe_op op_add (pe_op op_add (pe_op op_mul (pv 2) (pe_fld (pv 0) rfl)) (pv 4)) (pe_op op_mod (pe_op op_sub (pv 5) (pv 4)) (pe_fld (pv 0) rfl)))))))))), ?_⟩
    have fa : (turnFs N q per).lookup ("around" : Str) = some (.int N) := by unfold turnFs; kernel_rfl
    have fr : (turnFs N q per).lookup ("rows" : Str) = some (.ref q) := by unfold turnFs; kernel_rfl
    refine ⟨_, rfl, x, rfl, true, rfl, iteF ?_⟩
    refine ⟨_, rfl, _, rfl, p, c.Tu, dx, _, _, rfl, h1, T.cl_Tu, T.n_Tu_around, fa, _, _, rfl, ⟨hN, by omega⟩, fun d hd => ?_⟩
    have e1 : Same H (upd H d (.tup [.int (x / N), .int (x % N)])) := same_new hd
    refine ⟨d, _, rfl, SqT.of upd_same, rfl, _, _, rfl, _, _, rfl, rfl, ?_⟩
    -- if place < self.rows[0][0]
    have hq01 := same_sqT e1 hq0
    have hs1 := same_sqT e1 hs
    refine ⟨_, rfl, _, rfl, p, c.Tu, dx, _, _, rfl, e1 _ _ h1, T.cl_Tu, T.n_Tu_rows, fr, q, _, _, _, rfl, rfl, hs1, (by exact atI_nat (j := 0) hy0), q0, _, _, _, rfl, rfl, hq01, atI0, _, _, rfl, rfl, _, rfl, ?_⟩
    obtain ⟨lap, place, hLP⟩ : ∃ lap place : Int, (if x % N < (rows.headD (0, 0)).1 then (x / N - 1, x % N + N) else (x / N, x % N)) = (lap, place) := ⟨_, _, rfl⟩
    have hfin : liftF N rows x = lap * N + (rowAt place (rows.headD (0, 0)) rows).1 + ((rowAt place (rows.headD (0, 0)) rows).2 - (rowAt place (rows.headD (0, 0)) rows).1) % N := by
      unfold liftF
      simp only [hLP]
    rw [hh] at hLP hfin
    refine ite2 (fun hc => ?ga) (fun hc => ?gb)
    case' ga =>
      rw [if_pos (of_decide_eq_true hc)] at hLP
      have g1 := (Prod.mk.inj hLP).1
      have g2 := (Prod.mk.inj hLP).2
      refine ⟨_, rfl, _, _, rfl, rfl, _, rfl, _, rfl, p, c.Tu, dx, _, _, rfl, e1 _ _ h1, T.cl_Tu, T.n_Tu_around, fa, _, _, rfl, rfl, .int lap, .int place, (by show [V.int (x / N - 1), V.int (x % N + N)] = _; rw [g1, g2]), ?_⟩
    case' gb =>
      rw [if_neg (fun z => hc (decide_eq_true z))] at hLP
      have g1 := (Prod.mk.inj hLP).1
      have g2 := (Prod.mk.inj hLP).2
    all_goals
      refine ⟨_, rfl, p, c.Tu, dx, _, _, rfl, e1 _ _ h1, T.cl_Tu, T.n_Tu_rows, fr, q, _, _, _, rfl, rfl, hs1, (by exact atI_nat (j := 0) hy0), q0, _, rfl, hq01, rfl, _, _, rfl, _, _, rfl, rfl, ?_⟩
      refine ⟨_, rfl, p, c.Tu, dx, _, _, rfl, e1 _ _ h1, T.cl_Tu, T.n_Tu_rows, fr, q, rfl, ⟨ys, hs1⟩, for_it walk_tup (fun i σ H2 => Same H H2 ∧ ∃ x6, σ = [some (.ref p), some (.int x), some (.int lap), some (.int place), some (.int (rowAt place rows[0] (rows.take i)).1), some (.int (rowAt place rows[0] (rows.take i)).2), x6])
        ⟨e1, none, (by first | rfl | (rw [← g1, ← g2]; rfl))⟩ (fun i σ H2 _ z => same_sqT z.1 hs) ?_ ?_⟩
      · rintro i y σ H2 H3 hi ⟨e2, x6, rfl⟩ ⟨rfl, hy⟩
        obtain ⟨r, hrow, hdy⟩ := dpAll_item hda hy
        obtain ⟨qa, rfl, hqa⟩ := dp_pr hdy
        have hqa2 := same_sqT e2 hqa
        have ht : rows.take (i + 1) = rows.take i ++ [r] := by rw [List.take_succ, hrow]; rfl
        refine ⟨_, rfl, qa, _, _, _, rfl, rfl, hqa2, atI0, _, rfl, _, _, rfl, rfl, _, rfl, ite2 (fun h => ?_) (fun h => ?_)⟩
        · refine ⟨_, rfl, qa, _, rfl, hqa2, rfl, _, _, rfl, _, _, rfl, rfl, e2, some (.ref qa), ?_⟩
          rw [ht, rowAt_snoc, if_pos (of_decide_eq_true h)]
          rfl
        · refine ⟨e2, some (.ref qa), ?_⟩
          rw [ht, rowAt_snoc, if_neg (fun z => h (decide_eq_true z))]
          rfl
      · rintro σ H2 ⟨e2, x6, rfl⟩
        rw [hl, List.take_length]
        refine ⟨_, rfl, _, rfl, p, c.Tu, dx, _, _, rfl, e2 _ _ h1, T.cl_Tu, T.n_Tu_around, fa, _, _, rfl, rfl, .inr ⟨by omega, by omega⟩, _, rfl, _, _, rfl, rfl, _, rfl, _, rfl, _, _, rfl, rfl, _, rfl, p, c.Tu, dx, _, _, rfl, e2 _ _ h1, T.cl_Tu, T.n_Tu_around, fa, _, _, rfl, rfl, hN, _, _, rfl, rfl, ?_⟩
        have := k H2 e2
        rw [hfin] at this
        exact this
/-! ### turning(x) -/
def landT (N : Int) (rows : List (Int × Int)) (x : Int) : Int := liftF N rows x % N
def spCallT (K : PySem.W.Frag) (c : Cs) : Sp := fun vs H Q _ => ∃ (p : Addr) (x N : Int) (rows : List (Int × Int)) (per : Int), vs = [.ref p, .int x] ∧ TurnAt K c H p N rows per ∧ 0 < N ∧ N ≤ 1000 ∧ 0 < rows.length ∧ ∀ H', Same H H' → Q (.int (landT N rows x)) H'
abbrev s_Turning___call__ : Stmt := inC 26 6
theorem c_Turning___call__ : FnScope ["self", "x"] ["self", "x"] (defScope s_Turning___call__) := ⟨rfl, rfl, rfl, by decide +kernel, rfl, by decide +kernel, by decide +kernel⟩
theorem b_Turning___call__ : Bnd0 "__call__" "Turning.__call__" s_Turning___call__ ["self", "x"] := fun _ _ _ _ _ _ us hl => match us, hl with | [_, _], _ => rfl
theorem k_Turning (T : Tx K mg c) : ∃ g, StX.CallO K c.Tu g ∧ FnR P w K mg base CX0 3 g (spCallT K c) := by
  obtain ⟨g, fd, hc, F⟩ := T.callT
  refine ⟨g, hc, fnr_0 F c_Turning___call__ b_Turning___call__ (fun vs H Q E h => ?_) fun cdv A outer s H vs Q E hr h => ?_⟩
  · obtain ⟨p, x, N, rows, per, rfl, _⟩ := h
    rfl
  · obtain ⟨p, x, N, rows, per, rfl, Ta, hN, hN2, h0, k⟩ := h
    obtain ⟨dx, q, h1, h2⟩ := Ta.ob
    have fa : (turnFs N q per).lookup ("around" : Str) = some (.int N) := by unfold turnFs; kernel_rfl
    have fl : (turnFs N q per).lookup ("lifted" : Str) = none := by unfold turnFs; kernel_rfl
    refine ⟨_, (pss_one (ps_ret (pe_op op_mod (pe_M (pv 0) (e_Turning_lifted T) (hr.mono (by first | decide | omega)) pass0 (pa_cons (pv 1) pa_nil)) (pe_fld (pv 0) rfl)))), ?_⟩
    refine ⟨_, rfl, p, dx, _, rfl, h1, fl, _, rfl, p, x, N, rows, per, rfl, Ta, hN, hN2, h0, fun H2 e2 => ?_⟩
    exact ⟨_, rfl, p, c.Tu, dx, _, _, rfl, e2 _ _ h1, T.cl_Tu, T.n_Tu_around, fa, _, _, rfl, rfl, hN, k H2 e2⟩
/-! ### is_even -/
def spIsEven (K : PySem.W.Frag) (c : Cs) : Sp := fun vs H Q _ => ∃ (p : Addr) (N : Int) (rows : List (Int × Int)) (per : Int), vs = [.ref p] ∧ TurnAt K c H p N rows per ∧ 0 < per ∧ N % 2 = 0 ∧ N / 2 % per = 0 ∧ Q (.bl true) H
abbrev s_Turning_is_even : Stmt := inC 26 9
theorem c_Turning_is_even : FnScope ["self"] ["self"] (defScope s_Turning_is_even) := ⟨rfl, rfl, rfl, by decide +kernel, rfl, by decide +kernel, by decide +kernel⟩
theorem b_Turning_is_even : Bnd0 "is_even" "Turning.is_even" s_Turning_is_even ["self"] := fun _ _ _ _ _ _ us hl => match us, hl with | [_], _ => rfl
theorem e_Turning_is_even (T : Tx K mg c) : Me P w K mg base CX0 1 c.Tu "is_even" (spIsEven K c) := by
  refine me_0 T.cl_Tu T.M_Tu_is_even c_Turning_is_even b_Turning_is_even (fun vs H Q E h => ?_) fun f cdv A outer s H vs Q E hr h => ?_
  · obtain ⟨p, N, rows, per, rfl, _⟩ := h
    rfl
  · obtain ⟨p, N, rows, per, rfl, ⟨dx, q, h1, h2⟩, hp, hN, hN2, k⟩ := h
    have fa : (turnFs N q per).lookup ("around" : Str) = some (.int N) := by unfold turnFs; kernel_rfl
    have fp : (turnFs N q per).lookup ("_period" : Str) = some (.int per) := by unfold turnFs; kernel_rfl
    refine ⟨_, (pss_one (ps_ret (pe_and (pe_cmpR op_eq (pe_op op_mod (pe_fld (pv 0) rfl) pe_int) pe_int (nomark _)) (pe_one (pe_cmpR op_eq (pe_op op_mod (pe_op op_fdiv (pe_fld (pv 0) rfl) pe_int) (pe_fld (pv 0) rfl)) pe_int (nomark _)))))), ?_⟩
    refine ⟨_, rfl, p, c.Tu, dx, _, _, rfl, h1, T.cl_Tu, T.n_Tu_around, fa, _, _, rfl, rfl, (by show (0 : Int) < 2; decide), rfl, true, blT (congrArg V.int hN), iteT ?_⟩
    refine ⟨_, rfl, p, c.Tu, dx, _, _, rfl, h1, T.cl_Tu, T.n_Tu_around, fa, _, _, rfl, rfl, ⟨by decide, by decide⟩, _, rfl, p, c.Tu, dx, _, _, rfl, h1, T.cl_Tu, T.n_Tu__period, fp, _, _, rfl, rfl, hp, rfl, qT (congrArg V.int hN2) k⟩
end
end L2.Jw
set_option Elab.async false
set_option linter.all false
set_option maxRecDepth 100000
set_option maxHeartbeats 4000000
namespace L2.Jw
open PySem PySem.Spec PyProof.Rows
theorem ints_at {l : List Int} {i : Nat} {y : V} (h : (l.map V.int)[i]? = some y) : ∃ z, l[i]? = some z ∧ y = V.int z := by
  rw [List.getElem?_map] at h
  cases e : l[i]? with
  | none => rw [e] at h; cases h
  | some z => rw [e] at h; exact ⟨z, rfl, (Option.some.inj h).symm⟩
theorem turn_around {N per : Int} {q : Addr} : (turnFs N q per).lookup ("around" : Str) = some (.int N) := by unfold turnFs; kernel_rfl
section
variable {P : Program} {w : World} {K : PySem.W.Frag} {mg : Str → Option Value} {base : Heap} {c : Cs}
/-! ### is_word: of the word that is asked -/
def spIsWord : Sp := fun vs H Q _ => vs = [.str "squeeze"] ∧ Q (.bl true) H
abbrev s_is_word : Stmt := top 29
theorem c_is_word : FnScope ["thing"] ["thing"] (defScope s_is_word) := ⟨rfl, rfl, rfl, by decide +kernel, rfl, by decide +kernel, by decide +kernel⟩
theorem b_is_word : Bnd0 "is_word" "is_word" s_is_word ["thing"] := fun _ _ _ _ _ _ us hl => match us, hl with | [_], _ => rfl
theorem d_is_word (T : Tx K mg c) : Df P w K mg base CX0 1 "is_word" spIsWord := by
  refine df_0 T.D_is_word c_is_word b_is_word (fun vs H Q E h => ?_) fun f cdv A outer s H vs Q E hr h => ?_
  · obtain ⟨rfl, _⟩ := h
    rfl
  · obtain ⟨rfl, q⟩ := h
    refine ⟨_, (pss_one (ps_ret (pe_and (pe_callB call_isi (by rfl) T.isinstance (by decide +kernel) (pa_cons (pv 0) (pa_cons (pe_tyN "str" (by rfl) T.str (by decide +kernel)) pa_nil))) (pe_one (pe_cmpR op_in_seq (pv 0) (pe_gR rfl T.WORDS) (by rfl)))))), ?_⟩
    refine ⟨_, rfl, .str "squeeze", .ty "str", _, _, true, rfl, .ty _, .base (.str _), kit_ty (by decide +kernel), true, rfl, iteT ?_⟩
    refine ⟨_, rfl, c.WO, _, rfl, .inr (T.words H), rfl, (by kernel_rfl), ?_⟩
    have e : inV (V.str "squeeze") [V.str "push", V.str "squeeze"] = true := by kernel_rfl
    show Q (.bl (inV (V.str "squeeze") [V.str "push", V.str "squeeze"])) H
    rw [e]
    exact q
/-! ### checked_widths -/
structure GoodGap (N : Int) (gap : List Int) : Prop where
  n2 : 2 ≤ N
  ns : N ≤ 1000
  len : (gap.length : Int) = N
  bnd : ∀ y ∈ gap, 0 ≤ y ∧ y ≤ 1000000000000
  half : ∀ (i : Nat) (y : Int), gap[i]? = some y → gap[(((i : Int) + N / 2) % N).toNat]? = some y
def spCheckedWidths (K : PySem.W.Frag) : Sp := fun vs H Q _ => ∃ (a : Addr) (N : Int) (gap : List Int), vs = [.ref a, .int N] ∧ H a = some (.lst (gap.map V.int)) ∧ GoodGap N gap ∧ ∀ H' p, Same H H' → SqT K H' p (gap.map V.int) → Q (.ref p) H'
abbrev s_checked_widths : Stmt := top 30
theorem c_checked_widths : FnScope ["widths", "around", "at", "width"] ["widths", "around"] (defScope s_checked_widths) := ⟨rfl, rfl, rfl, by decide +kernel, rfl, by decide +kernel, by decide +kernel⟩
theorem b_checked_widths : Bnd0 "checked_widths" "checked_widths" s_checked_widths ["widths", "around"] := fun _ _ _ _ _ _ us hl => match us, hl with | [_, _], _ => rfl
theorem d_checked_widths (T : Tx K mg c) : Df P w K mg base CX0 2 "checked_widths" (spCheckedWidths K) := by
  refine df_0 T.D_checked_widths c_checked_widths b_checked_widths (fun vs H Q E h => ?_) fun f cdv A outer s H vs Q E hr h => ?_
  · obtain ⟨a, N, gap, rfl, _⟩ := h
    rfl
  · obtain ⟨a, N, gap, rfl, ha, G, q⟩ := h
    have hlm : (gap.map V.int).length = gap.length := List.length_map ..
    have hN := G.n2
    refine ⟨_, (pss_cons (ps_if (PW.pt (pw_or (pt_not (pt_val (pe_D (d_is_row T) (hr.mono (by first | decide | omega)) rfl pass0 (pa_cons (pv 0) pa_nil)))) (pw_or1 (pt_cmpR op_ne (pe_callB call_len_seq (by rfl) T.len (by decide +kernel) (pa_cons (pv 0) pa_nil)) (pv 1) (nomark _))))) (pss_one ps_never) pss_nil)
      (pss_cons (ps_for PassesOwn.never rfl (pi_enum (by rfl) T.enumerate (pa_cons (pv 0) pa_nil)) (pg_tup rfl (pgs_cons (pg_name (i := 2) c_checked_widths.nd rfl (Or.inl rfl)) (pgs_cons (pg_name (i := 3) c_checked_widths.nd rfl (Or.inl rfl)) pgs_nil)))
      (pss_one (ps_if (PW.pt (pw_or (pt_not (pt_val (pe_D (d_is_integer T) (hr.mono (by first | decide | omega)) rfl pass0 (pa_cons (pv 3) pa_nil)))) (pw_or1 (pt_not (pt_chain op_le op_le pe_int (pv 3) (pe_gI rfl T.MOST_WIDTH)))))) (pss_one ps_never) pss_nil)))
      (pss_cons (ps_for PassesOwn.never rfl (pi_enum (by rfl) T.enumerate (pa_cons (pv 0) pa_nil)) (pg_tup rfl (pgs_cons (pg_name (i := 2) c_checked_widths.nd rfl (Or.inl rfl)) (pgs_cons (pg_name (i := 3) c_checked_widths.nd rfl (Or.inl rfl)) pgs_nil)))
      (pss_one (ps_if (pt_cmpR op_ne (pv 3) (pe_ix (r := rIxL K) ix_list (pv 0) (pe_op op_mod (pe_op op_add (pv 2) (pe_op op_fdiv (pv 1) pe_int)) (pv 1)) (fun _ _ => rfl)) (nomark _)) (pss_one ps_never) pss_nil)))
      (pss_one (ps_ret (pe_callTy call_tuple_of (by rfl) T.tuple (by decide +kernel) (pa_cons (pe_callTy call_list_of (by rfl) T.list (by decide +kernel) (pa_cons (pv 0) pa_nil)) pa_nil))))))), ?_⟩
    refine ⟨_, rfl, a, _, rfl, ha, fun H1 e1 => ⟨true, rfl, iteF ?_⟩⟩
    refine ⟨_, rfl, a, _, rfl, .inl (SqL.of (e1 _ _ ha)), _, rfl, rfl, _, rfl, inD (by rw [hlm, G.len]) ?_⟩
    -- the bounds
    refine ⟨_, rfl, a, _, rfl, SqL.of (e1 _ _ ha), for_it walk_enum (fun i σ H2 => Same H H2 ∧ ∃ (x2 x3 : Option V), σ = [some (.ref a), some (.int N), x2, x3])
      ⟨e1, none, none, rfl⟩ (fun i σ H2 _ p => SqL.of (p.1 _ _ ha)) ?_ ?_⟩
    · rintro i x σ H2 H3 hi ⟨e2, x2, x3, rfl⟩ ⟨t, x0, y, rfl, ht, rfl, hx0, hy⟩
      cases hx0
      obtain ⟨z, hz, rfl⟩ := ints_at hy
      have e3 := same_updN (o := .tup [.int (i : Nat), .int z]) e2 ht
      have B := G.bnd z (List.mem_of_getElem? hz)
      refine ⟨t, _, rfl, SqT.of upd_same, rfl, _, _, rfl, _, _, rfl, rfl, ?_⟩
      refine ⟨_, rfl, z, rfl, true, rfl, iteF ?_⟩
      refine ⟨_, rfl, _, _, rfl, rfl, true, blT B.1, iteT ⟨_, _, rfl, rfl, _, rfl, inD B.2 ⟨e3, _, _, rfl⟩⟩⟩
    · rintro σ H2 ⟨e2, x2, x3, rfl⟩
      -- the halves
      refine ⟨_, rfl, a, _, rfl, SqL.of (e2 _ _ ha), for_it walk_enum (fun i σ H2 => Same H H2 ∧ ∃ (x2 x3 : Option V), σ = [some (.ref a), some (.int N), x2, x3])
        ⟨e2, _, _, rfl⟩ (fun i σ H2 _ p => SqL.of (p.1 _ _ ha)) ?_ ?_⟩
      · rintro i x σ H2 H3 hi ⟨e2, x2, x3, rfl⟩ ⟨t, x0, y, rfl, ht, rfl, hx0, hy⟩
        cases hx0
        obtain ⟨z, hz, rfl⟩ := ints_at hy
        have e3 := same_updN (o := .tup [.int (i : Nat), .int z]) e2 ht
        have hh := G.half i z hz
        have hpos : 0 ≤ ((i : Int) + N / 2) % N := Int.emod_nonneg _ (by omega)
        have hat : atI (gap.map V.int) (((i : Int) + N / 2) % N) = some (.int z) := by
          have := atI_nat (xs := gap.map V.int) (j := (((i : Int) + N / 2) % N).toNat) (v := V.int z) (by rw [List.getElem?_map, hh]; rfl)
          rw [Int.toNat_of_nonneg hpos] at this
          exact this
        refine ⟨t, _, rfl, SqT.of upd_same, rfl, _, _, rfl, _, _, rfl, rfl, ?_⟩
        refine ⟨_, rfl, _, rfl, _, rfl, _, rfl, _, _, rfl, rfl, ⟨by decide, by decide⟩, _, _, rfl, rfl, _, rfl, _, _, rfl, rfl, (by show 0 < N; omega), a, _, _, _, rfl, rfl, SqL.of (e3 _ _ ha), hat, rfl, _, rfl, inD rfl ⟨e3, _, _, rfl⟩⟩
      · rintro σ H2 ⟨e2, x2, x3, rfl⟩
        refine ⟨_, rfl, a, _, rfl, .inl (SqL.of (e2 _ _ ha)), fun l hl => ⟨l, _, rfl, .inl ⟨SqL.of upd_same, fun l2 hl2 => ?_⟩⟩⟩
        exact q _ l2 (e2.trans ((same_new hl).trans (same_new hl2))) (SqT.of upd_same)
/-! ### check_even -/
def spCheckEven (K : PySem.W.Frag) (c : Cs) : Sp := fun vs H Q _ => ∃ (p : Addr) (N : Int) (rows : List (Int × Int)) (per : Int), vs = [.ref p] ∧ TurnAt K c H p N rows per ∧ 0 < per ∧ N % 2 = 0 ∧ N / 2 % per = 0 ∧ Q .non H
abbrev s_check_even : Stmt := top 31
theorem c_check_even : FnScope ["turning"] ["turning"] (defScope s_check_even) := ⟨rfl, rfl, rfl, by decide +kernel, rfl, by decide +kernel, by decide +kernel⟩
theorem b_check_even : Bnd0 "check_even" "check_even" s_check_even ["turning"] := fun _ _ _ _ _ _ us hl => match us, hl with | [_], _ => rfl
theorem d_check_even (T : Tx K mg c) : Df P w K mg base CX0 2 "check_even" (spCheckEven K c) := by
  refine df_0 T.D_check_even c_check_even b_check_even (fun vs H Q E h => ?_) fun f cdv A outer s H vs Q E hr h => ?_
  · obtain ⟨p, N, rows, per, rfl, _⟩ := h
    rfl
  · obtain ⟨p, N, rows, per, rfl, Ta, hp, hN, hN2, k⟩ := h
    obtain ⟨dx, q, h1, h2⟩ := Ta.ob
    refine ⟨_, (pss_one (ps_if (pt_not (pt_val (pe_M0 (pv 0) (e_Turning_is_even T) (hr.mono (by first | decide | omega)) pass0))) (pss_one ps_never) pss_nil)), ?_⟩
    exact ⟨_, rfl, p, dx, _, rfl, h1, (by unfold turnFs; kernel_rfl), p, N, rows, per, rfl, Ta, hp, hN, hN2, true, rfl, iteF k⟩
end
/-! ### Part -/
structure PartD where
  rows : List (Int × Int)
  per : Int
  push : Option Int
  gap : List Int
def spanD (d : PartD) : Int := match d.push with
  | none => (Nat.lcm (Int.natAbs 1) d.per.natAbs : Nat)
  | some pp => (Nat.lcm (Int.natAbs ((Nat.lcm (Int.natAbs 1) pp.natAbs : Nat) : Int)) d.per.natAbs : Nat)
structure PartOk (N : Int) (d : PartD) : Prop where
  n2 : 2 ≤ N
  n48 : N ≤ 48
  ev : N % 2 = 0
  rows : GoodRows N d.rows
  few : d.rows.length ≤ 4
  p1 : 1 ≤ d.per
  pn : d.per ≤ N
  half : N / 2 % d.per = 0
  push : ∀ pp, d.push = some pp → 1 ≤ pp ∧ pp ≤ N
  gap : GoodGap N d.gap
def partFs (N : Int) (q d : Addr) : List (Str × V) := [("around", .int N), ("_shown", .ref q), ("_turnings", .ref d)]
section
variable {P : Program} {w : World} {K : PySem.W.Frag} {mg : Str → Option Value} {base : Heap} {c : Cs}
theorem part_around {N : Int} {q d : Addr} : (partFs N q d).lookup ("around" : Str) = some (.int N) := by unfold partFs; kernel_rfl
theorem part_shown {N : Int} {q d : Addr} : (partFs N q d).lookup ("_shown" : Str) = some (.ref q) := by unfold partFs; kernel_rfl
theorem part_turnings {N : Int} {q d : Addr} : (partFs N q d).lookup ("_turnings" : Str) = some (.ref d) := by unfold partFs; kernel_rfl
/-- the dict of a part's turnings -/
def TurnsAt (K : PySem.W.Frag) (c : Cs) (H : Hp) (N : Int) (d : PartD) (kvs : List (Key × V)) : Prop := ∃ t, TurnAt K c H t N d.rows d.per ∧ match d.push with
  | none => kvs = ([(Sum.inr ("squeeze" : Str), V.ref t)] : List (Key × V))
  | some pp => ∃ t2 rows2, TurnAt K c H t2 N rows2 pp ∧ kvs = ([(Sum.inr ("push" : Str), V.ref t2), (Sum.inr ("squeeze" : Str), V.ref t)] : List (Key × V))
structure PartAt (K : PySem.W.Frag) (c : Cs) (H : Hp) (a : Addr) (N : Int) (d : PartD) : Prop where
  ob : ∃ dx q td kvs, H a = some (.ins c.Pa dx (partFs N q td)) ∧ SqT K H q (d.gap.map V.int) ∧ H td = some (.dK kvs) ∧ TurnsAt K c H N d kvs
theorem TurnsAt.same {H H' : Hp} {N : Int} {d : PartD} {kvs : List (Key × V)} (h : TurnsAt K c H N d kvs) (e : Same H H') : TurnsAt K c H' N d kvs := by
  obtain ⟨t, h1, h2⟩ := h
  refine ⟨t, h1.same e, ?_⟩
  cases hp : d.push with
  | none => rw [hp] at h2; exact h2
  | some pp =>
    rw [hp] at h2
    obtain ⟨t2, r2, h3, h4⟩ := h2
    exact ⟨t2, r2, h3.same e, h4⟩
theorem PartAt.same {H H' : Hp} {a : Addr} {N : Int} {d : PartD} (h : PartAt K c H a N d) (e : Same H H') : PartAt K c H' a N d := by
  obtain ⟨dx, q, td, kvs, h1, h2, h3, h4⟩ := h.ob
  exact ⟨dx, q, td, kvs, e _ _ h1, same_sqT e h2, e _ _ h3, h4.same e⟩
end
end L2.Jw
set_option Elab.async false
set_option linter.all false
set_option maxRecDepth 100000
set_option maxHeartbeats 4000000
namespace L2.Jw
open PySem PySem.Spec PyProof.Rows
section
variable {P : Program} {w : World} {K : PySem.W.Frag} {mg : Str → Option Value} {base : Heap} {c : Cs}
theorem turns_sq {H : Hp} {N : Int} {d : PartD} {kvs : List (Key × V)} (h : TurnsAt K c H N d kvs) : ∃ t, TurnAt K c H t N d.rows d.per ∧ valV kvs (Sum.inr ("squeeze" : Str)) = some (.ref t) := by
  obtain ⟨t, h1, h2⟩ := h
  refine ⟨t, h1, ?_⟩
  cases hp : d.push with
  | none =>
    rw [hp] at h2
    subst h2
    kernel_rfl
  | some pp =>
    rw [hp] at h2
    obtain ⟨t2, r2, h3, h4⟩ := h2
    subst h4
    kernel_rfl
/-! ### part['squeeze'] -/
def spGetP (K : PySem.W.Frag) (c : Cs) : Sp := fun vs H Q _ => ∃ (p : Addr) (N : Int) (d : PartD), vs = [.ref p, .str "squeeze"] ∧ PartAt K c H p N d ∧ ∀ t, TurnAt K c H t N d.rows d.per → Q (.ref t) H
abbrev s_Part___getitem__ : Stmt := inC 32 5
theorem c_Part___getitem__ : FnScope ["self", "at"] ["self", "at"] (defScope s_Part___getitem__) := ⟨rfl, rfl, rfl, by decide +kernel, rfl, by decide +kernel, by decide +kernel⟩
theorem b_Part___getitem__ : Bnd0 "__getitem__" "Part.__getitem__" s_Part___getitem__ ["self", "at"] := fun _ _ _ _ _ _ us hl => match us, hl with | [_, _], _ => rfl
theorem g_Part (T : Tx K mg c) : ∃ g, GetO K c.Pa g ∧ FnR P w K mg base CX0 2 g (spGetP K c) := by
  obtain ⟨g, fd, hc, F⟩ := T.getP
  refine ⟨g, hc, fnr_0 F c_Part___getitem__ b_Part___getitem__ (fun vs H Q E h => ?_) fun cdv A outer s H vs Q E hr h => ?_⟩
  · obtain ⟨p, N, d, rfl, _⟩ := h
    rfl
  · obtain ⟨p, N, d, rfl, Pa, k⟩ := h
    obtain ⟨dx, q, td, kvs, h1, h2, h3, h4⟩ := Pa.ob
    obtain ⟨t, h5, h6⟩ := turns_sq h4
    refine ⟨_, (pss_cons (ps_if (PW.pt (pw_or (pt_not (pt_val (pe_D (d_is_word T) (hr.mono (by first | decide | omega)) rfl pass0 (pa_cons (pv 1) pa_nil)))) (pw_or1 (pt_cmp (pc_dnotin (hu_of hr) (pv 1) (pe_fld (pv 0) rfl)))))) (pss_one ps_never) pss_nil)
      (pss_one (ps_ret (pe_dget (hu_of hr) (pe_fld (pv 0) rfl) (pv 1) (fun _ _ => rfl))))), ?_⟩
    refine ⟨_, rfl, rfl, true, rfl, iteF ?_⟩
    refine ⟨_, rfl, _, rfl, p, c.Pa, dx, _, _, rfl, h1, T.cl_Pa, T.n_Pa__turnings, part_turnings, td, _, rfl, DGet.k (k := Sum.inr ("squeeze" : Str)) h3, _, rfl, ?_⟩
    rw [h6]
    refine iteF ?_
    exact ⟨_, rfl, p, c.Pa, dx, _, _, rfl, h1, T.cl_Pa, T.n_Pa__turnings, part_turnings, _, rfl, td, _, rfl, (by rw [← h6]; exact DGet.k (k := Sum.inr ("squeeze" : Str)) h3), k t h5⟩
/-! ### part.widths -/
def spWidthsP (K : PySem.W.Frag) (c : Cs) : Sp := fun vs H Q _ => ∃ (p : Addr) (N : Int) (d : PartD), vs = [.ref p] ∧ PartAt K c H p N d ∧ ∀ l, H l = none → Q (.ref l) (upd H l (.lst (d.gap.map V.int)))
abbrev s_Part_widths : Stmt := inC 32 3
theorem c_Part_widths : FnScope ["self"] ["self"] (defScope s_Part_widths) := ⟨rfl, rfl, rfl, by decide +kernel, rfl, by decide +kernel, by decide +kernel⟩
theorem b_Part_widths : Bnd0 "widths" "Part.widths" s_Part_widths ["self"] := fun _ _ _ _ _ _ us hl => match us, hl with | [_], _ => rfl
theorem p_Part_widths (T : Tx K mg c) : ∃ p g fd, PropOf K c.Pa "widths" p g ∧ FnOk P w K mg base CX0 1 g fd ["self"] (spWidthsP K c) ∧ Binds K fd ["self"] [] := by
  refine pr_0 T.P_Pa_widths c_Part_widths b_Part_widths (fun vs H Q E h => ?_) fun f cdv A outer s H vs Q E hr h => ?_
  · obtain ⟨p, N, d, rfl, _⟩ := h
    rfl
  · obtain ⟨p, N, d, rfl, Pa, k⟩ := h
    obtain ⟨dx, q, td, kvs, h1, h2, h3, h4⟩ := Pa.ob
    refine ⟨_, (pss_cons (ps_if (pt_cmpR op_isN (pe_fld (pv 0) rfl) pe_non (nomark _)) (pss_one (ps_ret pe_non)) pss_nil)
      (pss_one (ps_ret (pe_callTy call_list_of (by rfl) T.list (by decide +kernel) (pa_cons (pe_fld (pv 0) rfl) pa_nil))))), ?_⟩
    refine ⟨_, rfl, p, c.Pa, dx, _, _, rfl, h1, T.cl_Pa, T.n_Pa__shown, part_shown, rfl, _, rfl, itN (by intro z; cases z) ?_⟩
    exact ⟨_, rfl, p, c.Pa, dx, _, _, rfl, h1, T.cl_Pa, T.n_Pa__shown, part_shown, q, _, rfl, .inr h2, k⟩
/-! ### part.words -/
def spWordsP (K : PySem.W.Frag) (c : Cs) : Sp := fun vs H Q _ => ∃ (p : Addr) (N : Int) (d : PartD), vs = [.ref p] ∧ PartAt K c H p N d ∧ ∀ H' l ws, Same H H' → H' l = some (.lst ws) → V.str "squeeze" ∈ ws → (∀ v ∈ ws, flatV v = true) → Q (.ref l) H'
abbrev s_Part_words : Stmt := inC 32 1
theorem c_Part_words : FnScope ["self", "word"] ["self"] (defScope s_Part_words) := ⟨rfl, rfl, rfl, by decide +kernel, rfl, by decide +kernel, by decide +kernel⟩
theorem b_Part_words : Bnd0 "words" "Part.words" s_Part_words ["self"] := fun _ _ _ _ _ _ us hl => match us, hl with | [_], _ => rfl
theorem p_Part_words (T : Tx K mg c) : ∃ p g fd, PropOf K c.Pa "words" p g ∧ FnOk P w K mg base CX0 1 g fd ["self"] (spWordsP K c) ∧ Binds K fd ["self"] [] := by
  refine pr_0 T.P_Pa_words c_Part_words b_Part_words (fun vs H Q E h => ?_) fun f cdv A outer s H vs Q E hr h => ?_
  · obtain ⟨p, N, d, rfl, _⟩ := h
    rfl
  · obtain ⟨p, N, d, rfl, Pa, k⟩ := h
    obtain ⟨dx, q, td, kvs, h1, h2, h3, h4⟩ := Pa.ob
    obtain ⟨t, h5, h6⟩ := turns_sq h4
    refine ⟨_, (pss_one (ps_ret (pe_lc (own := [("word", 1)]) (g := (gName 1)) (tt := tB (tDIn (tVar 1) (tFld K (tVar 0) "_turnings"))) (by rfl) c_Part_words.nd (pi_tup (pe_gR rfl T.WORDS)) (blkOk_by (own := [("word", 1)]) (N := ["self", "word"]) (sc := defScope s_Part_words) (by decide +kernel)) (fun _ _ _ _ _ => (pg_name (i := 1) c_Part_words.nd rfl (Or.inl rfl))) (fun _ _ _ _ _ => (pts_one (pt_cmp (pc_din (hu_of hr) (pv 1) (show PE _ _ (tFld K (tVar 0) "_turnings") from pe_fld (pv 0) rfl))))) (fun _ _ _ _ _ => (pv 1))))), ?_⟩
    refine ⟨c.WO, rfl, ⟨_, T.words H⟩, fun D hD => lc_fm walk_tup (fun i => ([("push" : Str), "squeeze"][i]?).bind fun z => if (valV kvs (Sum.inr z)).isSome then some z else none) (fun z y H => y = V.str z) hD (fun H4 e4 => T.words _) (by show 2 ≤ 1000000; decide) (fun _ _ _ _ _ _ _ h => h) ?_ ?_⟩
    · rintro i x H4 H5 Cy Cn hi e4 ⟨rfl, hx⟩ hy hn
      obtain ⟨z, hz, rfl⟩ : ∃ z : Str, [("push" : Str), "squeeze"][i]? = some z ∧ x = V.str z := by
        match i, hx with
        | 0, hx => exact ⟨_, rfl, (Option.some.inj hx).symm⟩
        | 1, hx => exact ⟨_, rfl, (Option.some.inj hx).symm⟩
      refine ⟨rfl, _, rfl, _, rfl, p, c.Pa, dx, _, _, rfl, e4 _ _ h1, T.cl_Pa, T.n_Pa__turnings, part_turnings, td, _, rfl, DGet.k (k := Sum.inr z) (e4 _ _ h3), _, rfl, ?_⟩
      cases hv : valV kvs (Sum.inr z) with
      | none => exact iteF (hn (by rw [hz]; show (if (valV kvs (Sum.inr z)).isSome then some z else none) = none; rw [hv]; rfl) _ (Same.refl _))
      | some v => exact iteT ⟨_, rfl, hy z _ _ (by rw [hz]; show (if (valV kvs (Sum.inr z)).isSome then some z else none) = some z; rw [hv]; rfl) (Same.refl _) rfl⟩
    · intro H4 acc e4 hacc hp
      refine k H4 D acc e4 hacc ?_ ?_
      · rw [show (List.range [V.str "push", V.str "squeeze"].length) = List.range ([("push" : Str), "squeeze"]).length from rfl, fm_all] at hp
        have hm : ∀ {l : List Str} {acc : List V}, Paired (fun z y => y = V.str z) l acc → ("squeeze" : Str) ∈ l → V.str "squeeze" ∈ acc := by
          intro l acc hp
          induction hp with
          | nil => intro h; cases h
          | cons a t ih =>
            intro h
            rcases List.mem_cons.mp h with h | h
            · rw [a, h]; exact List.mem_cons_self ..
            · exact List.mem_cons_of_mem _ (ih h)
        refine hm hp (List.mem_filterMap.mpr ⟨("squeeze" : Str), List.mem_cons_of_mem _ (List.mem_cons_self ..), ?_⟩)
        rw [h6]
        rfl
      · have hf : ∀ {l : List Str} {acc : List V}, Paired (fun z y => y = V.str z) l acc → ∀ v ∈ acc, flatV v = true := by
          intro l acc hp
          induction hp with
          | nil => intro v h; cases h
          | cons a t ih =>
            intro v h
            rcases List.mem_cons.mp h with h | h
            · rw [h, a]; rfl
            · exact ih v h
        exact hf hp
def mAt (a b : Int) : Nat → Int
  | 0 => 1
  | 1 => a
  | _ => b
/-! ### part.period -/
def spPeriodP (K : PySem.W.Frag) (c : Cs) : Sp := fun vs H Q _ => ∃ (p : Addr) (N : Int) (d : PartD), vs = [.ref p] ∧ PartAt K c H p N d ∧ PartOk N d ∧ ∀ H', Same H H' → Q (.int (spanD d)) H'
abbrev s_Part_period : Stmt := inC 32 2
theorem c_Part_period : FnScope ["self", "many", "turning"] ["self"] (defScope s_Part_period) := ⟨rfl, rfl, rfl, by decide +kernel, rfl, by decide +kernel, by decide +kernel⟩
theorem b_Part_period : Bnd0 "period" "Part.period" s_Part_period ["self"] := fun _ _ _ _ _ _ us hl => match us, hl with | [_], _ => rfl
theorem p_Part_period (T : Tx K mg c) : ∃ p g fd, PropOf K c.Pa "period" p g ∧ FnOk P w K mg base CX0 3 g fd ["self"] (spPeriodP K c) ∧ Binds K fd ["self"] [] := by
  refine pr_0 T.P_Pa_period c_Part_period b_Part_period (fun vs H Q E h => ?_) fun f cdv A outer s H vs Q E hr h => ?_
  · obtain ⟨p, N, d, rfl, _⟩ := h
    rfl
  · obtain ⟨p, N, d, rfl, Pa, G, k⟩ := h
    obtain ⟨dx, q, td, kvs, h1, h2, h3, h4⟩ := Pa.ob
    refine ⟨_, (pss_cons (ps_set (i := 1) c_Part_period.nd rfl (Or.inl rfl) pe_int)
      (pss_cons (ps_lock (ps_for PassesOwn.never rfl (pi_values (pe_fld (pv 0) rfl)) (pg_name (i := 2) c_Part_period.nd rfl (Or.inl rfl)) (pss_one (ps_set (i := 1) c_Part_period.nd rfl (Or.inl rfl) (pe_callBfun cr_lcm rfl T.lcm (pa_cons (pv 1) (pa_cons (pe_P (pv 2) T.cl_Tu (p_Turning_period T) (hr.mono (by decide))) pa_nil)))))))
      (pss_one (ps_ret (pv 1))))), ?_⟩
    refine ⟨td, _, h3, True.intro, fun od => ?_⟩
    have ptd : p ≠ td := ne_of h1 h3 (by intro z; cases z)
    have hq : ∀ H2, (∀ b o, H b = some o → b ≠ td → H2 b = some o) → H2 td = some (.frz od (.dK kvs)) → Same H (upd H2 td (.dK kvs)) := fun H2 a b x o e => by
      by_cases hx : x = td
      · subst hx; rw [upd_same, ← h3, e]
      · rw [upd_ne hx]; exact a x o e hx
    have tk : ∀ {t r pp}, TurnAt K c H t N r pp → TurnAt K c (upd H td (.frz od (.dK kvs))) t N r pp := fun {t r pp} h => by
      obtain ⟨dx, q, g1, g2⟩ := h.ob
      refine ⟨dx, q, by rw [upd_ne (ne_of g1 h3 (by intro z; cases z))]; exact g1, ?_⟩
      obtain ⟨t', ys, et, hs, hda⟩ := dp_tup g2
      cases et
      have kk := tkeep_upd (K := K) (u := .frz od (.dK kvs)) h3 (fun xs z => by cases z) (fun a b z => by cases z)
      exact .tup (kk _ _ hs) (prs_tkeep kk hda)
    have hH : ∀ b o, H b = some o → b ≠ td → (upd H td (.frz od (.dK kvs))) b = some o := fun b o e hb => by rw [upd_ne hb]; exact e
    obtain ⟨t, h5, h6⟩ := h4
    have small : ∀ pp : Int, 1 ≤ pp ∧ pp ≤ N → pp.natAbs < 2 ^ 64 := fun pp h => by have := G.n48; omega
    refine ⟨_, rfl, p, c.Pa, dx, _, _, rfl, by rw [upd_ne ptd]; exact h1, T.cl_Pa, T.n_Pa__turnings, part_turnings, td, od, kvs, rfl, upd_same, ?_⟩
    cases hp : d.push with
    | none =>
      rw [hp] at h6
      subst h6
      refine for_it walk_values (fun i σ H2 => H2 = upd H td (.frz od (.dK _)) ∧ ∃ x2, σ = [some (.ref p), some (.int (mAt (spanD d) (spanD d) i)), x2]) ⟨rfl, none, rfl⟩ (fun i σ H2 _ z => by rw [z.1]; exact upd_same) ?_ ?_
      · rintro i x σ H2 H3 hi ⟨rfl, x2, rfl⟩ ⟨rfl, kk, hx⟩
        match i, hx with
        | 0, hx =>
          cases hx
          refine ⟨_, rfl, _, rfl, t, _, _, rfl, (tk h5).ob.choose_spec.choose_spec.1, t, N, d.rows, d.per, rfl, tk h5, _, _, rfl, by show (1 : Int).natAbs < 2 ^ 64; decide, small _ ⟨G.p1, G.pn⟩, rfl, some (.ref t), ?_⟩
          have e : spanD d = ((Nat.lcm (Int.natAbs 1) d.per.natAbs : Nat) : Int) := by unfold spanD; rw [hp]
          show _ = [some (V.ref p), some (V.int (spanD d)), some (V.ref t)]
          rw [e]
          rfl
      · rintro σ H2 ⟨rfl, x2, rfl⟩
        exact ⟨upd_same, _, rfl, k _ (hq _ hH upd_same)⟩
    | some pp =>
      rw [hp] at h6
      obtain ⟨t2, r2, h7, h8⟩ := h6
      subst h8
      have e : spanD d = (Nat.lcm (Int.natAbs ((Nat.lcm (Int.natAbs 1) pp.natAbs : Nat) : Int)) d.per.natAbs : Nat) := by unfold spanD; rw [hp]
      refine for_it walk_values (fun i σ H2 => H2 = upd H td (.frz od (.dK _)) ∧ ∃ x2, σ = [some (.ref p), some (.int (mAt (Nat.lcm (Int.natAbs 1) pp.natAbs : Nat) (spanD d) i)), x2]) ⟨rfl, none, rfl⟩ (fun i σ H2 _ z => by rw [z.1]; exact upd_same) ?_ ?_
      · rintro i x σ H2 H3 hi ⟨rfl, x2, rfl⟩ ⟨rfl, kk, hx⟩
        match i, hx with
        | 0, hx =>
          cases hx
          refine ⟨_, rfl, _, rfl, t2, _, _, rfl, (tk h7).ob.choose_spec.choose_spec.1, t2, N, r2, pp, rfl, tk h7, _, _, rfl, by show (1 : Int).natAbs < 2 ^ 64; decide, small _ (G.push pp hp), rfl, some (.ref t2), rfl⟩
        | 1, hx =>
          cases hx
          have hb := G.push pp hp
          have h48 := G.n48
          refine ⟨_, rfl, _, rfl, t, _, _, rfl, (tk h5).ob.choose_spec.choose_spec.1, t, N, d.rows, d.per, rfl, tk h5, _, _, rfl, ?_, small _ ⟨G.p1, G.pn⟩, rfl, some (.ref t), ?_⟩
          · show Nat.lcm 1 pp.natAbs < 2 ^ 64
            rw [Nat.lcm_one_left]
            exact small _ hb
          · show _ = [some (V.ref p), some (V.int (spanD d)), some (V.ref t)]
            rw [e]
            rfl
      · rintro σ H2 ⟨rfl, x2, rfl⟩
        exact ⟨upd_same, _, rfl, k _ (hq _ hH upd_same)⟩
end
end L2.Jw
set_option Elab.async false
set_option linter.all false
set_option maxRecDepth 100000
set_option maxHeartbeats 4000000
namespace L2.Jw
open PySem PySem.Spec PyProof.Rows
section
variable {P : Program} {w : World} {K : PySem.W.Frag} {mg : Str → Option Value} {base : Heap} {c : Cs}
theorem butI_tkeep {p C dx : Addr} {fs : List (Str × V)} {H H' : Hp} (e : But p H H') (hp : H p = some (.ins C dx fs)) : TKeep K H H' := fun b xs h => by
  rcases h with (h | ⟨o, h⟩) | h
  · exact .inl (.inl (e _ _ h fun z => by rw [z, hp] at h; cases h))
  · exact .inl (.inr ⟨o, e _ _ h fun z => by rw [z, hp] at h; cases h⟩)
  · exact .inr h
theorem prT_tkeep {H H' : Hp} (k : TKeep K H H') {v : V} {rows : List (Int × Int)} (h : Dp K H v (.tuple (rows.map prD))) : Dp K H' v (.tuple (rows.map prD)) := by
  obtain ⟨t, ys, rfl, hs, hda⟩ := dp_tup h
  exact .tup (k _ _ hs) (prs_tkeep k hda)
theorem TurnAt.butI {p C dx t : Addr} {fs : List (Str × V)} {H H' : Hp} {N per : Int} {rows : List (Int × Int)} (h : TurnAt K c H t N rows per) (e : But p H H') (hp : H p = some (.ins C dx fs)) (ne : t ≠ p) : TurnAt K c H' t N rows per := by
  obtain ⟨d2, q, h1, h2⟩ := h.ob
  exact ⟨d2, q, e _ _ h1 ne, prT_tkeep (butI_tkeep e hp) h2⟩
theorem TurnAt.ne {p C dx t : Addr} {H : Hp} {N per : Int} {rows : List (Int × Int)} (h : TurnAt K c H t N rows per) (hp : H p = some (.ins C dx [])) : t ≠ p := by
  obtain ⟨d2, q, h1, h2⟩ := h.ob
  intro z
  rw [z, hp] at h1
  have := (HO.ins.inj (Option.some.inj h1)).2.2
  unfold turnFs at this
  cases this
def spPartI (K : PySem.W.Frag) (c : Cs) : Sp := fun vs H Q _ => ∃ (p dx sq : Addr) (pu : V) (wl : Addr) (N : Int) (d : PartD), vs = [.ref p, .ref sq, pu, .ref wl] ∧ H p = some (.ins c.Pa dx []) ∧ PartOk N d ∧ TurnAt K c H sq N d.rows d.per ∧
  (match d.push with | none => pu = .non | some pp => ∃ pt rows2, pu = .ref pt ∧ TurnAt K c H pt N rows2 pp) ∧ H wl = some (.lst (d.gap.map V.int)) ∧ ∀ H', But p H H' → PartAt K c H' p N d → Q .non H'
abbrev s_Part___init__ : Stmt := inC 32 0
theorem c_Part___init__ : FnScope ["self", "squeeze", "push", "widths"] ["self", "squeeze", "push", "widths"] (defScope s_Part___init__) := ⟨rfl, rfl, rfl, by decide +kernel, rfl, by decide +kernel, by decide +kernel⟩
theorem b_Part___init__ : Bnd0 "__init__" "Part.__init__" s_Part___init__ ["self", "squeeze", "push", "widths"] := fun _ _ _ _ _ _ us hl => match us, hl with | [_, _, _, _], _ => rfl
theorem f_Part (T : Tx K mg c) {f : Addr} {fd : FuncData} (F : FnP K "__init__" "Part.__init__" s_Part___init__ [.non, .non, .non] [] f fd) : FnOk P w K mg base CX0 4 f fd ["self", "squeeze", "push", "widths"] (spPartI K c) := by
  refine FunD.ok F c_Part___init__ (fun vs H Q E h => ?_) fun cdv A outer s H vs Q E hr h => ?_
  · obtain ⟨p, dx, sq, pu, wl, N, d, rfl, _⟩ := h
    rfl
  · obtain ⟨p, dx, sq, pu, wl, N, d, rfl, hp, G, hsq, hpu, hwl, k⟩ := h
    suffices hh : ∃ t, PSs (cxOf CX0 P w K mg base ["self", "squeeze", "push", "widths"] "Part.__init__" (defScope s_Part___init__) f cdv A outer s H E).nox (defBody s_Part___init__) t ∧ t { nx := fun _ H' => Q .non H', rt := Q } (start ["self", "squeeze", "push", "widths"] [.ref p, .ref sq, pu, .ref wl]) H by
      obtain ⟨t, ht, hq⟩ := hh
      exact ⟨t, ht.nox, hq⟩
    have nsq := hsq.ne hp
    have nwl : wl ≠ p := ne_of hwl hp (by intro z; cases z)
    have hN := G.n2
    refine ⟨_, (pss_cons (ps_if (PW.pt (pw_and (pt_cmpR op_isN (pv 1) pe_non (nomark _)) (pw_and1 (pt_cmpR op_isN (pv 2) pe_non (nomark _))))) (pss_one ps_never) pss_nil)
      (pss_cons (ps_if (PW.pt (pw_and (pt_cmpR op_notN (pv 1) pe_non (nomark _)) (pw_and (pt_cmpR op_notN (pv 2) pe_non (nomark _)) (pw_and1 (pt_cmpR op_ne (pe_fld (pv 1) rfl) (pe_fld (pv 2) rfl) (nomark _)))))) (pss_one ps_never) pss_nil)
      (pss_cons (ps_if (pt_cmpR op_notN (pv 1) pe_non (nomark _)) (pss_one (ps_expr (pe_D (d_check_even T) (hr.mono (by first | decide | omega)) rfl pass0 (pa_cons (pv 1) pa_nil)))) (pss_one (ps_if (pt_cmpR op_notN (pv 3) pe_non (nomark _)) (pss_one ps_never) pss_nil)))
      (pss_cons (ps_fld (pv 0) (pe_ifExp (pt_cmpR op_isN (pv 1) pe_non (nomark _)) (pe_fld (pv 2) rfl) (pe_fld (pv 1) rfl)) rfl)
      (pss_cons (ps_fld (pv 0) (pe_ifExp (pt_cmpR op_isN (pv 3) pe_non (nomark _)) pe_non (pe_D (d_checked_widths T) (hr.mono (by first | decide | omega)) rfl pass0 (pa_cons (pv 3) (pa_cons (pe_fld (pv 0) rfl) pa_nil)))) rfl)
      (pss_cons (ps_fld (pv 0) pe_dnewK rfl)
      (pss_cons (ps_if (pt_cmpR op_notN (pv 2) pe_non (nomark _)) (pss_one (ps_dput (hu_of hr) (pe_fld (pv 0) rfl) pe_str (pv 2) rfl)) pss_nil)
      (pss_one (ps_if (pt_cmpR op_notN (pv 1) pe_non (nomark _)) (pss_one (ps_dput (hu_of hr) (pe_fld (pv 0) rfl) pe_str (pv 1) rfl)) pss_nil))))))))), ?_⟩
    obtain ⟨d2, q2, g1, g2⟩ := hsq.ob
    -- the tail behind the two tests
    refine ⟨_, rfl, rfl, _, rfl, itN (by intro z; cases z) ?_⟩
    refine ⟨_, rfl, rfl, _, rfl, inN (by intro z; cases z) ?_⟩
    cases hpp : d.push with
    | none =>
      rw [hpp] at hpu
      subst hpu
      refine ⟨_, rfl, rfl, _, rfl, inD rfl ?_⟩
      refine ⟨_, rfl, rfl, _, rfl, inN (by intro z; cases z) ?_⟩
      refine ⟨_, rfl, sq, N, d.rows, d.per, rfl, hsq, by have := G.p1; omega, G.ev, G.half, ?_⟩
      refine ⟨_, rfl, rfl, _, rfl, itN (by intro z; cases z) ⟨_, rfl, sq, c.Tu, d2, _, _, rfl, g1, T.cl_Tu, T.n_Tu_around, turn_around, ?_⟩⟩
      refine ⟨_, rfl, p, c.Pa, dx, _, rfl, hp, T.cl_Pa, T.n_Pa_around, (by show 0 < 1000; decide), ?_⟩
      refine ⟨_, rfl, rfl, _, rfl, itN (by intro z; cases z) ⟨_, rfl, _, rfl, p, c.Pa, dx, _, _, rfl, upd_same, T.cl_Pa, T.n_Pa_around, (by kernel_rfl), wl, N, d.gap, rfl, by rw [upd_ne nwl]; exact hwl, G.gap, fun H2 t e2 ht => ?_⟩⟩
      refine ⟨_, rfl, p, c.Pa, dx, _, rfl, e2 _ _ upd_same, T.cl_Pa, T.n_Pa__shown, (by show 1 < 1000; decide), fun td htd => ?_⟩
      have npd : p ≠ td := ne_of_none upd_same htd
      refine ⟨_, rfl, p, c.Pa, dx, _, rfl, by rw [upd_ne npd]; exact upd_same, T.cl_Pa, T.n_Pa__turnings, (by show 2 < 1000; decide), ?_⟩
      refine ⟨_, rfl, rfl, _, rfl, inD rfl ?_⟩
      refine ⟨_, rfl, rfl, _, rfl, inN (by intro z; cases z) ?_⟩
      refine ⟨_, rfl, _, rfl, p, c.Pa, dx, _, _, rfl, upd_same, T.cl_Pa, T.n_Pa__turnings, (by kernel_rfl), td, _, rfl, DPut.k (k := Sum.inr ("squeeze" : Str)) (by rw [upd_ne npd.symm, upd_same]) (by show 0 < sizeLine; decide), ?_⟩
      have b1 : But p H H2 := but_upd.trans e2.but
      have htd0 : H td = none := by
        cases z : H td with
        | none => rfl
        | some o =>
          have := b1 _ _ z npd.symm
          rw [upd_ne npd.symm] at htd
          rw [this] at htd
          cases htd
      have bf : ∀ o1 o2 o3 o4 o5, But p H (upd (upd (upd (upd (upd H2 p o1) td o2) p o3) td o4) p o5) := fun o1 o2 o3 o4 o5 x o e hx => by
        rw [upd_ne hx, upd_ne (ne_of_none e htd0), upd_ne hx, upd_ne (ne_of_none e htd0), upd_ne hx]
        exact b1 _ _ e hx
      have bf' : ∀ o1 o2 o3 o4, But p H (upd (upd (upd (upd H2 p o1) td o2) p o3) td o4) := fun o1 o2 o3 o4 x o e hx => by
        rw [upd_ne (ne_of_none e htd0), upd_ne hx, upd_ne (ne_of_none e htd0), upd_ne hx]
        exact b1 _ _ e hx
      refine k _ (bf' _ _ _ _) ⟨dx, t, td, _, ?_, ?_, upd_same, sq, hsq.butI (bf' _ _ _ _) hp nsq, ?_⟩
      · rw [upd_ne npd, upd_same]
        exact congrArg (fun l => some (HO.ins c.Pa dx l)) (by unfold partFs; kernel_rfl)
      · have hH2 : H2 td = none := by rw [← htd, upd_ne npd.symm]
        have k1 : TKeep K H2 (upd (upd (upd (upd H2 p (.ins c.Pa dx (putF "_shown" (.ref t) (putF "around" (.int N) [])))) td (.dK [])) p (.ins c.Pa dx (putF "_turnings" (.ref td) (putF "_shown" (.ref t) (putF "around" (.int N) []))))) td (.dK (putK [] (Sum.inr ("squeeze" : Str)) (.ref sq)))) := butI_tkeep (p := p) (fun x o e hx => by
          rw [upd_ne (ne_of_none e hH2), upd_ne hx, upd_ne (ne_of_none e hH2), upd_ne hx]
          exact e) (e2 _ _ upd_same)
        exact k1 _ _ ht
      · rw [hpp]
        kernel_rfl
    | some pp =>
      rw [hpp] at hpu
      obtain ⟨pt, rows2, rfl, hpt⟩ := hpu
      obtain ⟨d3, q3, g3, g4⟩ := hpt.ob
      have npt := hpt.ne hp
      refine ⟨_, rfl, rfl, _, rfl, inN (by intro z; cases z) ?_⟩
      refine ⟨_, rfl, sq, c.Tu, d2, _, _, rfl, g1, T.cl_Tu, T.n_Tu_around, turn_around, _, rfl, pt, c.Tu, d3, _, _, rfl, g3, T.cl_Tu, T.n_Tu_around, turn_around, rfl, _, rfl, inD rfl ?_⟩
      refine ⟨_, rfl, rfl, _, rfl, inN (by intro z; cases z) ?_⟩
      refine ⟨_, rfl, sq, N, d.rows, d.per, rfl, hsq, by have := G.p1; omega, G.ev, G.half, ?_⟩
      refine ⟨_, rfl, rfl, _, rfl, itN (by intro z; cases z) ⟨_, rfl, sq, c.Tu, d2, _, _, rfl, g1, T.cl_Tu, T.n_Tu_around, turn_around, ?_⟩⟩
      refine ⟨_, rfl, p, c.Pa, dx, _, rfl, hp, T.cl_Pa, T.n_Pa_around, (by show 0 < 1000; decide), ?_⟩
      refine ⟨_, rfl, rfl, _, rfl, itN (by intro z; cases z) ⟨_, rfl, _, rfl, p, c.Pa, dx, _, _, rfl, upd_same, T.cl_Pa, T.n_Pa_around, (by kernel_rfl), wl, N, d.gap, rfl, by rw [upd_ne nwl]; exact hwl, G.gap, fun H2 t e2 ht => ?_⟩⟩
      refine ⟨_, rfl, p, c.Pa, dx, _, rfl, e2 _ _ upd_same, T.cl_Pa, T.n_Pa__shown, (by show 1 < 1000; decide), fun td htd => ?_⟩
      have npd : p ≠ td := ne_of_none upd_same htd
      refine ⟨_, rfl, p, c.Pa, dx, _, rfl, by rw [upd_ne npd]; exact upd_same, T.cl_Pa, T.n_Pa__turnings, (by show 2 < 1000; decide), ?_⟩
      refine ⟨_, rfl, rfl, _, rfl, inN (by intro z; cases z) ?_⟩
      refine ⟨_, rfl, _, rfl, p, c.Pa, dx, _, _, rfl, upd_same, T.cl_Pa, T.n_Pa__turnings, (by kernel_rfl), td, _, rfl, DPut.k (k := Sum.inr ("push" : Str)) (by rw [upd_ne npd.symm, upd_same]) (by show 0 < sizeLine; decide), ?_⟩
      refine ⟨_, rfl, rfl, _, rfl, inN (by intro z; cases z) ?_⟩
      refine ⟨_, rfl, _, rfl, p, c.Pa, dx, _, _, rfl, by rw [upd_ne npd]; exact upd_same, T.cl_Pa, T.n_Pa__turnings, (by kernel_rfl), td, _, rfl, DPut.k (k := Sum.inr ("squeeze" : Str)) upd_same (by show 1 < sizeLine; decide), ?_⟩
      have b1 : But p H H2 := but_upd.trans e2.but
      have htd0 : H td = none := by
        cases z : H td with
        | none => rfl
        | some o =>
          have := b1 _ _ z npd.symm
          rw [upd_ne npd.symm] at htd
          rw [this] at htd
          cases htd
      have bf' : ∀ o1 o2 o3 o4 o5, But p H (upd (upd (upd (upd (upd H2 p o1) td o2) p o3) td o4) td o5) := fun o1 o2 o3 o4 o5 x o e hx => by
        rw [upd_ne (ne_of_none e htd0), upd_ne (ne_of_none e htd0), upd_ne hx, upd_ne (ne_of_none e htd0), upd_ne hx]
        exact b1 _ _ e hx
      refine k _ (bf' _ _ _ _ _) ⟨dx, t, td, _, ?_, ?_, upd_same, sq, hsq.butI (bf' _ _ _ _ _) hp nsq, ?_⟩
      · rw [upd_ne npd, upd_ne npd, upd_same]
        exact congrArg (fun l => some (HO.ins c.Pa dx l)) (by unfold partFs; kernel_rfl)
      · have hH2 : H2 td = none := by rw [← htd, upd_ne npd.symm]
        have k1 : ∀ o1 o2 o3 o4 o5, TKeep K H2 (upd (upd (upd (upd (upd H2 p o1) td o2) p o3) td o4) td o5) := fun o1 o2 o3 o4 o5 => butI_tkeep (p := p) (fun x o e hx => by
          rw [upd_ne (ne_of_none e hH2), upd_ne (ne_of_none e hH2), upd_ne hx, upd_ne (ne_of_none e hH2), upd_ne hx]
          exact e) (e2 _ _ upd_same)
        exact k1 _ _ _ _ _ _ _ ht
      · rw [hpp]
        exact ⟨pt, rows2, hpt.butI (bf' _ _ _ _ _) hp npt, by kernel_rfl⟩
theorem m_Part (T : Tx K mg c) : Mkr P w K mg base CX0 4 "Part" c.Pa (spPartI K c) := by
  obtain ⟨f, fd, hm, F⟩ := T.I_Pa
  have G := f_Part (P := P) (w := w) (base := base) T F
  obtain ⟨ds, hd, hb⟩ := F.binds1 (ps := ["self", "squeeze", "push", "widths"]) 4 3 (by intro z; cases z) rfl (fun T kV doc pm an cdv ct us its h1 h2 => match us, its, h1, h2 with | [_, _, _, _], [_, _, _], _, _ => ⟨_, rfl, rfl⟩)
  refine ⟨f, T.mg_Pa, hm, (G.raw hb hd).imp fun vs H Q E h => ?_⟩
  show spPartI K c (vs ++ []) H Q E
  rw [List.append_nil]
  exact h
end
end L2.Jw
set_option Elab.async false
set_option linter.all false
set_option maxRecDepth 100000
set_option maxHeartbeats 4000000
namespace L2.Jw
open PySem PySem.Spec PyProof.Rows
def IsPool (xs : List V) : Prop := ∃ a b c : Int, xs = [.int a, .int b, .int c]
def PoolAt (H : Hp) (p : Addr) : Prop := ∃ xs, H p = some (.lst xs) ∧ IsPool xs
theorem PoolAt.mk {H : Hp} {p : Addr} {a b c : Int} (h : H p = some (.lst [.int a, .int b, .int c])) : PoolAt H p := ⟨_, h, a, b, c, rfl⟩
section
variable {P : Program} {w : World} {K : PySem.W.Frag} {mg : Str → Option Value} {base : Heap} {c : Cs}
/-! ### the pools of the law's drawing -/
def spPool (K : PySem.W.Frag) : Sp := fun vs H Q _ => ∃ (a : Addr) (k : Int) (ns : List Int), vs = [.ref a, .int k] ∧ 0 ≤ k ∧ SqL K H a (ns.map V.int) ∧ ∀ p H', Same H H' → H p = none → PoolAt H' p → Q (.ref p) H'
abbrev s__law_pool : Stmt := top 59
theorem c__law_pool : FnScope ["_law_script", "_law_k", "_law_cell"] ["_law_script", "_law_k"] (defScope s__law_pool) := ⟨rfl, rfl, rfl, by decide +kernel, rfl, by decide +kernel, by decide +kernel⟩
theorem b__law_pool : Bnd0 "_law_pool" "_law_pool" s__law_pool ["_law_script", "_law_k"] := fun _ _ _ _ _ _ us hl => match us, hl with | [_, _], _ => rfl
theorem d__law_pool (T : Tx K mg c) : Df P w K mg base CX0 1 "_law_pool" (spPool K) := by
  refine df_0 T.D__law_pool c__law_pool b__law_pool (fun vs H Q E h => ?_) fun f cdv A outer s H vs Q E hr h => ?_
  · obtain ⟨a, k, ns, rfl, _⟩ := h
    rfl
  · obtain ⟨a, k, ns, rfl, hk, hs, q⟩ := h
    refine ⟨_, (pss_cons (ps_set (i := 2) c__law_pool.nd rfl (Or.inl rfl) pe_int)
      (pss_cons (ps_if (pt_cmpR op_lt (pv 1) (pe_callB call_len_seq (by rfl) T.len (by decide +kernel) (pa_cons (pv 0) pa_nil)) (nomark _)) (pss_one (ps_set (i := 2) c__law_pool.nd rfl (Or.inl rfl) (pe_ix (r := rIxL K) ix_list (pv 0) (pv 1) (fun _ _ => rfl)))) pss_nil)
      (pss_cons (ps_if (pt_cmpR op_ge (pv 2) (pe_op op_pow pe_int pe_int) (nomark _)) (pss_one (ps_ret (pe_lst (pa_cons (pv 2) (pa_cons pe_int (pa_cons pe_int pa_nil)))))) pss_nil)
      (pss_one (ps_ret (pe_lst (pa_cons (pe_op op_mod (pe_callTy call_int1 (by rfl) T.int (by decide +kernel) (pa_cons (pv 2) pa_nil)) pe_int) (pa_cons pe_int (pa_cons (pv 1) pa_nil))))))))), ?_⟩
    refine ⟨_, rfl, _, rfl, a, _, rfl, .inl hs, _, _, rfl, rfl, _, rfl, ?_⟩
    refine ite2 (fun h => ?ga) (fun h => ?gb)
    case' ga =>
      have hlt : k < (ns.map V.int).length := of_decide_eq_true h
      rw [List.length_map] at hlt
      have hlt' : k.toNat < ns.length := by omega
      have hat : atI (ns.map V.int) k = some (.int ns[k.toNat]) := by
        have := atI_nat (xs := ns.map V.int) (j := k.toNat) (v := V.int ns[k.toNat]) (by rw [List.getElem?_map, List.getElem?_eq_getElem hlt']; rfl)
        rw [Int.toNat_of_nonneg hk] at this
        exact this
      refine ⟨_, rfl, _, rfl, a, _, _, _, rfl, rfl, hs, hat, ?_⟩
    all_goals
      refine ⟨_, rfl, _, _, rfl, rfl, ⟨by decide, by decide, by decide⟩, _, _, rfl, rfl, _, rfl, ite2 (fun h2 => ?_) (fun h2 => ?_)⟩
      · exact ⟨_, rfl, (by show 3 ≤ sizeLine; decide), fun p hp => q p _ (same_new hp) hp (PoolAt.mk upd_same)⟩
      · exact ⟨_, rfl, .inl ⟨_, rfl, _, _, rfl, rfl, (show (0 : Int) < 2147483647 by decide), _, rfl, (by show 3 ≤ sizeLine; decide), fun p hp => q p _ (same_new hp) hp (PoolAt.mk upd_same)⟩⟩
def spDraw : Sp := fun vs H Q _ => ∃ (p : Addr) (m : Int), vs = [.ref p, .int m] ∧ 0 < m ∧ m < 2 ^ 60 ∧ PoolAt H p ∧ ∀ r H', 0 ≤ r → r < m → But p H H' → PoolAt H' p → Q (.int r) H'
abbrev s__law_draw : Stmt := top 60
theorem c__law_draw : FnScope ["_law_pool_here", "_law_many", "_law_number"] ["_law_pool_here", "_law_many"] (defScope s__law_draw) := ⟨rfl, rfl, rfl, by decide +kernel, rfl, by decide +kernel, by decide +kernel⟩
theorem b__law_draw : Bnd0 "_law_draw" "_law_draw" s__law_draw ["_law_pool_here", "_law_many"] := fun _ _ _ _ _ _ us hl => match us, hl with | [_, _], _ => rfl
theorem d__law_draw (T : Tx K mg c) : Df P w K mg base CX0 1 "_law_draw" spDraw := by
  refine df_0 T.D__law_draw c__law_draw b__law_draw (fun vs H Q E h => ?_) fun f cdv A outer s H vs Q E hr h => ?_
  · obtain ⟨p, m, rfl, _⟩ := h
    rfl
  · obtain ⟨p, m, rfl, h0, h1, ⟨xs, hp, a, b, d, rfl⟩, q⟩ := h
    refine ⟨_, (pss_cons (ps_set (i := 2) c__law_draw.nd rfl (Or.inl rfl) (pe_ix (r := rIxL K) ix_list (pv 0) pe_int (fun _ _ => rfl)))
      (pss_cons (ps_if (pt_cmpR op_eq (pe_ix (r := rIxL K) ix_list (pv 0) pe_int (fun _ _ => rfl)) pe_int (nomark _)) (pss_cons (ps_asg (pe_op op_fdivW (pv 2) (pv 1)) (pg_sub (pv 0) pe_int set_list (fun _ => rfl)))
      (pss_one (ps_ret (pe_op op_mod (pe_callTy call_int1 (by rfl) T.int (by decide +kernel) (pa_cons (pv 2) pa_nil)) (pv 1))))) pss_nil)
      (pss_cons (ps_asg (pe_op op_add (pe_ix (r := rIxL K) ix_list (pv 0) pe_int (fun _ _ => rfl)) pe_int) (pg_sub (pv 0) pe_int set_list (fun _ => rfl)))
      (pss_cons (ps_set (i := 2) c__law_draw.nd rfl (Or.inl rfl) (pe_op op_mod (pe_callTy call_int1 (by rfl) T.int (by decide +kernel) (pa_cons (pe_op op_add (pe_op op_mul (pv 2) pe_int) (pe_op op_mul pe_int (pe_ix (r := rIxL K) ix_list (pv 0) pe_int (fun _ _ => rfl)))) pa_nil)) pe_int))
      (pss_cons (ps_asg (pv 2) (pg_sub (pv 0) pe_int set_list (fun _ => rfl)))
      (pss_one (ps_ret (pe_op op_mod (pe_op op_fdiv (pe_op op_mod (pe_callTy call_int1 (by rfl) T.int (by decide +kernel) (pa_cons (pe_op op_mul (pv 2) (pe_op op_add (pe_op op_fdiv (pv 2) pe_int) pe_int)) pa_nil)) pe_int) pe_int) (pv 1))))))))), ?_⟩
    refine ⟨_, rfl, p, _, _, _, rfl, rfl, SqL.of hp, atI0, ?_⟩
    refine ⟨_, rfl, p, _, _, _, rfl, rfl, SqL.of hp, atI1, rfl, _, rfl, ite2 (fun h => ?_) (fun h => ?_)⟩
    · refine ⟨_, rfl, _, rfl, _, _, rfl, rfl, wide_div h0 (b := 60) (by omega) (by decide) (by decide), _, rfl, p, _, _, 0, rfl, rfl, hp, (by kernel_rfl), ?_⟩
      exact ⟨_, rfl, .inl ⟨_, rfl, _, rfl, _, _, rfl, rfl, h0, q _ _ (Int.emod_nonneg _ (by omega)) (Int.emod_lt_of_pos _ h0) but_upd (PoolAt.mk upd_same)⟩⟩
    · refine ⟨_, rfl, p, _, _, _, rfl, rfl, SqL.of hp, atI2, _, _, rfl, rfl, _, rfl, p, _, _, 2, rfl, rfl, hp, (by kernel_rfl), ?_⟩
      refine ⟨_, rfl, _, _, rfl, rfl, .inr ⟨by decide, by decide⟩, _, rfl, p, _, _, _, rfl, rfl, SqL.of upd_same, (by exact atI2), _, _, rfl, rfl, .inl ⟨by decide, by decide⟩, _, _, rfl, rfl, .inl ⟨_, rfl, _, _, rfl, rfl, (show (0 : Int) < 2147483647 by decide), ?_⟩⟩
      refine ⟨_, rfl, _, rfl, p, _, _, 0, rfl, rfl, upd_same, (by kernel_rfl), ?_⟩
      generalize hz : (a * 48271 + 30103 * (d + 1)) % 2147483647 = z
      have z0 : 0 ≤ z := by rw [← hz]; exact Int.emod_nonneg _ (by decide)
      have z1 : z < 2147483647 := by rw [← hz]; exact Int.emod_lt_of_pos _ (by decide)
      refine ⟨_, rfl, _, rfl, _, _, rfl, rfl, ⟨by decide, by decide⟩, _, _, rfl, rfl, _, _, rfl, rfl, .inl ⟨?_, ?_⟩, .inl ⟨_, rfl, _, _, rfl, rfl, (show (0 : Int) < 2147483399 by decide), _, _, rfl, rfl, ⟨by decide, by decide⟩, _, rfl, _, _, rfl, rfl, h0, ?_⟩⟩
      · show -(2 ^ 64) < (a * 48271 + 30103 * (d + 1)) % 2147483647
        rw [hz]
        omega
      · show (a * 48271 + 30103 * (d + 1)) % 2147483647 < 2 ^ 64
        rw [hz]
        omega
      · exact q _ _ (Int.emod_nonneg _ (by omega)) (Int.emod_lt_of_pos _ h0) (but_upd.trans but_upd) (PoolAt.mk upd_same)
end
end L2.Jw
set_option Elab.async false
set_option linter.all false
set_option maxRecDepth 100000
set_option maxHeartbeats 4000000
namespace L2.Jw
open PySem PySem.Spec PyProof.Rows
theorem PoolAt.but {H H' : Hp} {p q : Addr} (h : PoolAt H p) (e : But q H H') (ne : p ≠ q) : PoolAt H' p := by
  obtain ⟨xs, h1, h2⟩ := h
  exact ⟨xs, e _ _ h1 ne, h2⟩
theorem PoolAt.same {H H' : Hp} {p : Addr} (h : PoolAt H p) (e : Same H H') : PoolAt H' p := by
  obtain ⟨xs, h1, h2⟩ := h
  exact ⟨xs, e _ _ h1, h2⟩
theorem PoolAt.ne {H : Hp} {p q : Addr} (h : PoolAt H p) (hq : H q = none) : p ≠ q := by
  obtain ⟨xs, h1, h2⟩ := h
  exact ne_of_none h1 hq
section
variable {P : Program} {w : World} {K : PySem.W.Frag} {mg : Str → Option Value} {base : Heap} {c : Cs}
/-- numbers as values, item by item -/
theorem pairedInts {l : List Int} {acc : List V} (h : Paired (fun (a : Int) (y : V) => y = V.int a) l acc) : acc = l.map V.int := by
  induction h with
  | nil => rfl
  | cons a t ih => rw [a, ih]; rfl
/-! ### _law_laps -/
def lapsOk (N most L : Int) (even : Bool) : Prop := 1 ≤ L ∧ L ≤ most ∧ N % L = 0 ∧ (even = true → L % 2 = 0)
def spLaps : Sp := fun vs H Q _ => ∃ (p : Addr) (N : Int) (even : Bool) (most : Int), vs = [.ref p, .int N, .bl even, .int most] ∧ PoolAt H p ∧ 2 ≤ N ∧ N % 2 = 0 ∧ 2 ≤ most ∧ most ≤ 1000 ∧ ∀ L H', lapsOk N most L even → But p H H' → PoolAt H' p → Q (.int L) H'
abbrev s__law_laps : Stmt := top 61
theorem c__law_laps : FnScope ["_law_pool_here", "_law_around", "_law_even", "_law_most", "_law_menu", "_law_at", "_law_laps_here"] ["_law_pool_here", "_law_around", "_law_even", "_law_most"] (defScope s__law_laps) := ⟨rfl, rfl, rfl, by decide +kernel, rfl, by decide +kernel, by decide +kernel⟩
theorem b__law_laps : Bnd0 "_law_laps" "_law_laps" s__law_laps ["_law_pool_here", "_law_around", "_law_even", "_law_most"] := fun _ _ _ _ _ _ us hl => match us, hl with | [_, _, _, _], _ => rfl
theorem d__law_laps (T : Tx K mg c) : Df P w K mg base CX0 2 "_law_laps" spLaps := by
  refine df_0 T.D__law_laps c__law_laps b__law_laps (fun vs H Q E h => ?_) fun f cdv A outer s H vs Q E hr h => ?_
  · obtain ⟨p, N, even, most, rfl, _⟩ := h
    rfl
  · obtain ⟨p, N, even, most, rfl, hp, n2, ne, m2, m1, q⟩ := h
    refine ⟨_, (pss_cons (ps_setLc (i := 4) (own := [("_law_laps_here", 6)]) (g := (gName 6)) (tt := tTest (tOp rEq (tOp (rI (fun _ j => 0 < j) fun i j => .int (i % j)) (tVar 1) (tVar 6)) (tC (.int 0)))) (by rfl) c__law_laps.nd rfl rfl (sw_true rfl rfl rfl (by decide +kernel)) (pi_range2 (by rfl) T.range (pa_cons pe_int (pa_cons (pe_op op_add (pv 3) pe_int) pa_nil))) (blkOk_by (own := [("_law_laps_here", 6)]) (N := ["_law_pool_here", "_law_around", "_law_even", "_law_most", "_law_menu", "_law_at", "_law_laps_here"]) (sc := defScope s__law_laps) (by decide +kernel)) (fun _ _ _ _ _ => (pg_name (i := 6) c__law_laps.nd rfl (Or.inl rfl))) (fun _ _ _ _ _ => (pts_one (pt_cmpR op_eq (pe_op op_mod (pv 1) (pv 6)) pe_int (nomark _)))) (fun _ _ _ _ _ => (pv 6)))
      (pss_cons (ps_if (pt_val (pv 2)) (pss_one (ps_setLc (i := 4) (own := [("_law_laps_here", 6)]) (g := (gName 6)) (tt := tTest (tOp rEq (tOp (rI (fun _ j => 0 < j) fun i j => .int (i % j)) (tVar 6) (tC (.int 2))) (tC (.int 0)))) (by rfl) c__law_laps.nd rfl rfl (sw_true rfl rfl rfl (by decide +kernel)) (pi_list (pv 4)) (blkOk_by (own := [("_law_laps_here", 6)]) (N := ["_law_pool_here", "_law_around", "_law_even", "_law_most", "_law_menu", "_law_at", "_law_laps_here"]) (sc := defScope s__law_laps) (by decide +kernel)) (fun _ _ _ _ _ => (pg_name (i := 6) c__law_laps.nd rfl (Or.inl rfl))) (fun _ _ _ _ _ => (pts_one (pt_cmpR op_eq (pe_op op_mod (pv 6) pe_int) pe_int (nomark _)))) (fun _ _ _ _ _ => (pv 6)))) pss_nil)
      (pss_cons (ps_set (i := 5) c__law_laps.nd rfl (Or.inl rfl) (pe_D (d__law_draw T) (hr.mono (by first | decide | omega)) rfl pass0 (pa_cons (pv 0) (pa_cons (pe_op op_mul pe_int (pe_callB call_len_seq (by rfl) T.len (by decide +kernel) (pa_cons (pv 4) pa_nil))) pa_nil))))
      (pss_cons (ps_if (pt_cmpR op_ge (pv 5) (pe_callB call_len_seq (by rfl) T.len (by decide +kernel) (pa_cons (pv 4) pa_nil)) (nomark _)) (pss_one (ps_set (i := 5) c__law_laps.nd rfl (Or.inl rfl) pe_int)) pss_nil)
      (pss_one (ps_ret (pe_ix (r := rIxL K) ix_list (pv 4) (pv 5) (fun _ _ => rfl)))))))), ?_⟩
    refine ⟨_, rfl, _, _, rfl, rfl, 1, most + 1, rfl, ⟨by omega, by omega, by omega, by omega⟩, fun D hD => lc_fm (walk_range (lo := 1) (n := (most + 1 - 1).toNat)) (fun i => if N % (1 + (i : Int)) = 0 then some (1 + (i : Int)) else none) (fun a y H => y = V.int a) hD (fun _ _ => True.intro) (by omega) (fun _ _ _ _ _ _ _ h => h) ?_ ?_⟩
    · rintro i x H4 H5 Cy Cn hi e4 ⟨rfl, rfl⟩ hy hn
      have h0 : (0 : Int) < 1 + (i : Int) := by omega
      refine ⟨rfl, _, rfl, _, rfl, _, _, rfl, rfl, h0, rfl, _, rfl, ite2 (fun h => ?_) (fun h => ?_)⟩
      · exact ⟨_, rfl, hy (1 + (i : Int)) _ _ (if_pos (V.int.inj (of_decide_eq_true h))) (Same.refl _) rfl⟩
      · exact hn (if_neg fun z => h (decide_eq_true (congrArg V.int z))) _ (Same.refl _)
    · intro H4 acc e4 hacc hpd
      have hacc' := pairedInts hpd
      generalize hM : (List.range (most + 1 - 1).toNat).filterMap (fun i : Nat => if N % (1 + (i : Int)) = 0 then some (1 + (i : Int)) else none) = M at hacc'
      subst hacc'
      have inM : ∀ L : Int, L ∈ M ↔ (1 ≤ L ∧ L ≤ most ∧ N % L = 0) := fun L => by
        rw [← hM, List.mem_filterMap]
        constructor
        · rintro ⟨i, hi, h⟩
          have hi' := List.mem_range.mp hi
          by_cases hz : N % (1 + (i : Int)) = 0
          · rw [if_pos hz] at h
            cases h
            exact ⟨by omega, by omega, hz⟩
          · rw [if_neg hz] at h
            cases h
        · rintro ⟨h1, h2, h3⟩
          refine ⟨(L - 1).toNat, List.mem_range.mpr (by omega), ?_⟩
          have e : (1 : Int) + ((L - 1).toNat : Int) = L := by omega
          rw [e, if_pos h3]
      have lenM : M.length ≤ most.toNat := by
        rw [← hM]
        refine Nat.le_trans (List.length_filterMap_le ..) ?_
        rw [List.length_range]
        omega
      clear hM hpd
      have tail : ∀ (D5 : Addr) (M5 : List Int) (H5 : Hp), But p H H5 → PoolAt H5 p → H5 D5 = some (.lst (M5.map V.int)) → (∀ L ∈ M5, lapsOk N most L even) → M5.length ≤ most.toNat → M5 ≠ [] → p ≠ D5 →
          ∃ n : Int, n = M5.length ∧ 0 < 2 * n ∧ 2 * n < 2 ^ 60 ∧ ∀ r H6, 0 ≤ r → r < 2 * n → But p H5 H6 → PoolAt H6 p → ∃ z : Int, z = (if decide (n ≤ r) = true then 0 else r) ∧ ∃ L, atI (M5.map V.int) z = some (.int L) ∧ H6 D5 = some (.lst (M5.map V.int)) ∧ Q (.int L) H6 := fun D5 M5 H5 b5 p5 hD5 hok hlen hne hpD => by
        have hpos : 0 < M5.length := List.length_pos_iff.mpr hne
        refine ⟨_, rfl, by omega, by omega, fun r H6 r0 r1 b6 p6 => ⟨_, rfl, ?_⟩⟩
        have fin : ∀ j : Nat, j < M5.length → ∃ L, atI (M5.map V.int) (j : Int) = some (.int L) ∧ H6 D5 = some (.lst (M5.map V.int)) ∧ Q (.int L) H6 := fun j hj =>
          ⟨M5[j], atI_nat (by rw [List.getElem?_map, List.getElem?_eq_getElem hj]; rfl), b6 _ _ hD5 hpD.symm, q _ _ (hok _ (List.getElem_mem hj)) (b5.trans b6) p6⟩
        by_cases h : (M5.length : Int) ≤ r
        · rw [if_pos (decide_eq_true h)]
          exact fin 0 hpos
        · rw [if_neg (fun z => h (of_decide_eq_true z))]
          have e : (r.toNat : Int) = r := Int.toNat_of_nonneg r0
          rw [← e]
          exact fin r.toNat (by omega)
      have hpD : p ≠ D := hp.ne hD
      refine ⟨_, rfl, even, rfl, ite2 (fun h => ?ga) (fun h => ?gb)⟩
      case gb =>
        obtain ⟨n, hn, t1, t2, t3⟩ := tail D M H4 e4.but (hp.same e4) hacc (fun L hL => ⟨((inM L).mp hL).1, ((inM L).mp hL).2.1, ((inM L).mp hL).2.2, fun z => absurd z h⟩) lenM (List.ne_nil_of_mem ((inM 1).mpr ⟨by decide, by omega, Int.emod_one _⟩)) hpD
        refine ⟨_, rfl, _, rfl, D, _, rfl, .inl (SqL.of hacc), _, n, rfl, (by rw [List.length_map, ← hn]), .inl ⟨by decide, by decide⟩, p, _, rfl, t1, t2, hp.same e4, fun r H6 r0 r1 b6 p6 => ?_⟩
        obtain ⟨z, hz, L, hL, hD6, hq⟩ := t3 r H6 r0 r1 b6 p6
        refine ⟨_, rfl, _, rfl, D, _, rfl, .inl (SqL.of hD6), _, n, rfl, (by rw [List.length_map, ← hn]), _, rfl, ite2 (fun h2 => ?_) (fun h2 => ?_)⟩
        · rw [if_pos h2] at hz
          subst hz
          exact ⟨_, rfl, _, rfl, D, _, _, _, rfl, rfl, SqL.of hD6, hL, hq⟩
        · rw [if_neg h2] at hz
          subst hz
          exact ⟨_, rfl, _, rfl, D, _, _, _, rfl, rfl, SqL.of hD6, hL, hq⟩
      case ga =>
        refine ⟨_, rfl, D, rfl, ⟨_, SqL.of hacc⟩, fun D5 hD5 => lc_fm walk_list (fun i => (M[i]?).bind fun L => if L % 2 = 0 then some L else none) (fun a y H => y = V.int a) hD5 (fun H e => SqL.of (e _ _ hacc)) (by rw [List.length_map]; omega) (fun _ _ _ _ _ _ _ h => h) ?_ ?_⟩
        · rintro i x H5 H6 Cy Cn hi e5 ⟨rfl, hx⟩ hy hn
          obtain ⟨z, hz, rfl⟩ := ints_at hx
          refine ⟨rfl, _, rfl, _, _, rfl, rfl, (show (0 : Int) < 2 by decide), rfl, _, rfl, ite2 (fun h => ?_) (fun h => ?_)⟩
          · exact ⟨_, rfl, hy z _ _ (by rw [hz]; exact if_pos (V.int.inj (of_decide_eq_true h))) (Same.refl _) rfl⟩
          · exact hn (by rw [hz]; exact if_neg fun w => h (decide_eq_true (congrArg V.int w))) _ (Same.refl _)
        · intro H5 acc e5 hacc5 hp5
          rw [List.length_map, fm_all] at hp5
          have hacc' := pairedInts hp5
          subst hacc'
          generalize hM5 : M.filterMap (fun L => if L % 2 = 0 then some L else none) = M5 at hacc5
          have inM5 : ∀ L : Int, L ∈ M5 ↔ (L ∈ M ∧ L % 2 = 0) := fun L => by
            rw [← hM5, List.mem_filterMap]
            constructor
            · rintro ⟨i, hi, h⟩
              by_cases hz : i % 2 = 0
              · rw [if_pos hz] at h
                cases h
                exact ⟨hi, hz⟩
              · rw [if_neg hz] at h
                cases h
            · rintro ⟨h1, h2⟩
              exact ⟨L, h1, if_pos h2⟩
          have hpD5 : p ≠ D5 := (hp.same e4).ne hD5
          obtain ⟨n, hn, t1, t2, t3⟩ := tail D5 M5 H5 (e4.but.trans e5.but) ((hp.same e4).same e5) hacc5 (fun L hL => ⟨((inM L).mp ((inM5 L).mp hL).1).1, ((inM L).mp ((inM5 L).mp hL).1).2.1, ((inM L).mp ((inM5 L).mp hL).1).2.2, fun _ => ((inM5 L).mp hL).2⟩)
            (by rw [← hM5]; exact Nat.le_trans (List.length_filterMap_le ..) lenM) (List.ne_nil_of_mem ((inM5 2).mpr ⟨(inM 2).mpr ⟨by decide, by omega, ne⟩, by decide⟩)) hpD5
          refine ⟨_, rfl, _, rfl, D5, _, rfl, .inl (SqL.of hacc5), _, n, rfl, (by rw [List.length_map, ← hn]), .inl ⟨by decide, by decide⟩, p, _, rfl, t1, t2, (hp.same e4).same e5, fun r H6 r0 r1 b6 p6 => ?_⟩
          obtain ⟨z, hz, L, hL, hD6, hq⟩ := t3 r H6 r0 r1 b6 p6
          refine ⟨_, rfl, _, rfl, D5, _, rfl, .inl (SqL.of hD6), _, n, rfl, (by rw [List.length_map, ← hn]), _, rfl, ite2 (fun h2 => ?_) (fun h2 => ?_)⟩
          · rw [if_pos h2] at hz
            subst hz
            exact ⟨_, rfl, _, rfl, D5, _, _, _, rfl, rfl, SqL.of hD6, hL, hq⟩
          · rw [if_neg h2] at hz
            subst hz
            exact ⟨_, rfl, _, rfl, D5, _, _, _, rfl, rfl, SqL.of hD6, hL, hq⟩
end
end L2.Jw
set_option Elab.async false
set_option linter.all false
set_option maxRecDepth 100000
set_option maxHeartbeats 4000000
namespace L2.Jw
open PySem PySem.Spec PyProof.Rows
theorem inV_int (b : Int) (bs : List Int) : inV (V.int b) (bs.map V.int) = decide (b ∈ bs) := by
  unfold inV
  rw [Bool.eq_iff_iff, List.any_eq_true, decide_eq_true_eq]
  constructor
  · rintro ⟨y, hy, h⟩
    obtain ⟨z, hz, rfl⟩ := List.mem_map.mp hy
    have : z = b := by simpa [eqV] using h
    rw [← this]
    exact hz
  · intro h
    exact ⟨V.int b, List.mem_map.mpr ⟨b, h, rfl⟩, by simp [eqV]⟩
theorem flat_ints (bs : List Int) : (bs.map V.int).all flatV = true := by
  rw [List.all_eq_true]
  intro y hy
  obtain ⟨z, _, rfl⟩ := List.mem_map.mp hy
  rfl
/-- all the rests of a round are in a list: the list is as long as the round -/
theorem all_rests {span b0 : Int} {bs : List Int} (hs : 0 < span) (h : ∀ t : Nat, (t : Int) < span → (b0 + t) % span ∈ bs) : span.toNat ≤ bs.length := by
  have hn : ((List.range span.toNat).map fun t : Nat => (b0 + (t : Int)) % span).Nodup := by
    rw [List.nodup_iff_pairwise_ne, List.pairwise_map]
    refine List.Pairwise.imp_of_mem (fun {x y} hx hy hne e => hne ?_) (List.nodup_iff_pairwise_ne.mp List.nodup_range)
    have hx' := List.mem_range.mp hx
    have hy' := List.mem_range.mp hy
    rw [Int.emod_eq_emod_iff_emod_sub_eq_zero, show b0 + (x : Int) - (b0 + (y : Int)) = (x : Int) - y by omega, ← Int.emod_eq_emod_iff_emod_sub_eq_zero, Int.emod_eq_of_lt (by omega) (by omega), Int.emod_eq_of_lt (by omega) (by omega)] at e
    omega
  have := nodup_len hn (m := bs) fun x hx => by
    obtain ⟨t, ht, rfl⟩ := List.mem_map.mp hx
    exact h t (by have := List.mem_range.mp ht; omega)
  rw [List.length_map, List.length_range] at this
  exact this
section
variable {P : Program} {w : World} {K : PySem.W.Frag} {mg : Str → Option Value} {base : Heap} {c : Cs}
theorem lst_tkeep {H : Hp} {B : Addr} {xs : List V} {o : HO} (h : H B = some (.lst xs)) : TKeep K H (upd H B o) := tkeep_upd h (fun _ z => by cases z) (fun _ _ z => by cases z)
structure RowsOk (N L most : Int) (rows : List (Int × Int)) : Prop where
  good : GoodRows N rows
  few : (rows.length : Int) ≤ most
  inv : Inv' N rows (N / L)
  ord : Ord N rows
def spRows (K : PySem.W.Frag) : Sp := fun vs H Q _ => ∃ (p : Addr) (N L most : Int), vs = [.ref p, .int N, .int L, .int most] ∧ PoolAt H p ∧ 2 ≤ N ∧ N ≤ 48 ∧ lapsOk N most L false ∧ most ≤ 12 ∧
  ∀ rows l xs H', RowsOk N L most rows → But p H H' → PoolAt H' p → H l = none → H' l = some (.lst xs) → DpAll K H' xs (rows.map prD) → Q (.ref l) H'
abbrev s__law_rows : Stmt := top 62
theorem c__law_rows : FnScope ["_law_pool_here", "_law_around", "_law_laps_here", "_law_most", "_law_span", "_law_many", "_law_begins", "_law_k", "_law_begin", "_law_j", "_law_pairs", "_law_size", "_law_off", "_law_lap"] ["_law_pool_here", "_law_around", "_law_laps_here", "_law_most"] (defScope s__law_rows) := ⟨rfl, rfl, rfl, by decide +kernel, rfl, by decide +kernel, by decide +kernel⟩
theorem b__law_rows : Bnd0 "_law_rows" "_law_rows" s__law_rows ["_law_pool_here", "_law_around", "_law_laps_here", "_law_most"] := fun _ _ _ _ _ _ us hl => match us, hl with | [_, _, _, _], _ => rfl
theorem d__law_rows (T : Tx K mg c) : Df P w K mg base CX0 2 "_law_rows" (spRows K) := by
  refine df_0 T.D__law_rows c__law_rows b__law_rows (fun vs H Q E h => ?_) fun f cdv A outer s H vs Q E hr h => ?_
  · obtain ⟨p, N, L, most, rfl, _⟩ := h
    rfl
  · obtain ⟨p, N, L, most, rfl, hp, n2, n48, ⟨L1, L2, L3, _⟩, m12, q⟩ := h
    refine ⟨_, (pss_cons (ps_set (i := 4) c__law_rows.nd rfl (Or.inl rfl) (pe_op op_fdiv (pv 1) (pv 2)))
      (pss_cons (ps_set (i := 5) c__law_rows.nd rfl (Or.inl rfl) (pe_op op_add pe_int (pe_D (d__law_draw T) (hr.mono (by first | decide | omega)) rfl pass0 (pa_cons (pv 0) (pa_cons (pe_callB (call_min2 rfl) (by rfl) T.min (by decide +kernel) (pa_cons (pe_op op_fdiv (pv 3) (pv 2)) (pa_cons (pv 4) pa_nil))) pa_nil)))))
      (pss_cons (ps_set (i := 6) c__law_rows.nd rfl (Or.inl rfl) (pe_lst pa_nil))
      (pss_cons (ps_for PassesOwn.never rfl (pi_range1 (by rfl) T.range (pa_cons (pv 5) pa_nil)) (pg_name (i := 7) c__law_rows.nd rfl (Or.inl rfl))
      (pss_cons (ps_set (i := 8) c__law_rows.nd rfl (Or.inl rfl) (pe_D (d__law_draw T) (hr.mono (by first | decide | omega)) rfl pass0 (pa_cons (pv 0) (pa_cons (pv 4) pa_nil))))
      (pss_cons (ps_for PassesOwn.never rfl (pi_range1 (by rfl) T.range (pa_cons (pv 4) pa_nil)) (pg_name (i := 9) c__law_rows.nd rfl (Or.inl rfl))
      (pss_cons (ps_if (pt_cmpR op_notIn_seq (pv 8) (pv 6) (by rfl)) (pss_one ps_break) pss_nil)
      (pss_one (ps_set (i := 8) c__law_rows.nd rfl (Or.inl rfl) (pe_op op_mod (pe_op op_add (pv 8) pe_int) (pv 4))))))
      (pss_one (ps_expr (pe_bm PySem.F.plainAttrs_list PySem.F.slot_list_append PySem.F.type_list_append mt_append (pv 6) (pa_cons (pv 8) pa_nil)))))))
      (pss_cons (ps_set (i := 6) c__law_rows.nd rfl (Or.inl rfl) (pe_callB cr_sortedI (by rfl) T.sorted (by decide +kernel) (pa_cons (pv 6) pa_nil)))
      (pss_cons (ps_set (i := 10) c__law_rows.nd rfl (Or.inl rfl) (pe_lst pa_nil))
      (pss_cons (ps_for PassesOwn.never rfl (pi_range1 (by rfl) T.range (pa_cons (pv 5) pa_nil)) (pg_name (i := 7) c__law_rows.nd rfl (Or.inl rfl))
      (pss_cons (ps_set (i := 11) c__law_rows.nd rfl (Or.inl rfl) (pe_op op_add (pe_op op_mod (pe_op op_sub (pe_op op_sub (pe_ix (r := rIxL K) ix_list (pv 6) (pe_op op_mod (pe_op op_add (pv 7) pe_int) (pv 5)) (fun _ _ => rfl)) (pe_ix (r := rIxL K) ix_list (pv 6) (pv 7) (fun _ _ => rfl))) pe_int) (pv 4)) pe_int))
      (pss_cons (ps_set (i := 12) c__law_rows.nd rfl (Or.inl rfl) (pe_D (d__law_draw T) (hr.mono (by first | decide | omega)) rfl pass0 (pa_cons (pv 0) (pa_cons (pv 11) pa_nil))))
      (pss_one (ps_for PassesOwn.never rfl (pi_range1 (by rfl) T.range (pa_cons (pv 2) pa_nil)) (pg_name (i := 13) c__law_rows.nd rfl (Or.inl rfl))
      (pss_cons (ps_set (i := 8) c__law_rows.nd rfl (Or.inl rfl) (pe_op op_add (pe_ix (r := rIxL K) ix_list (pv 6) (pv 7) (fun _ _ => rfl)) (pe_op op_mul (pv 13) (pv 4))))
      (pss_one (ps_expr (pe_bm PySem.F.plainAttrs_list PySem.F.slot_list_append PySem.F.type_list_append mt_append (pv 10) (pa_cons (pe_tup (pa_cons (pv 8) (pa_cons (pe_op op_mod (pe_op op_add (pv 8) (pv 12)) (pv 1)) pa_nil))) pa_nil))))))))))
      (pss_one (ps_ret (pe_callB (cr_sortD (enc := prD) hr.units) (by rfl) T.sorted (by decide +kernel) (pa_cons (pv 10) pa_nil))))))))))), ?_⟩
    have hmul : N = L * (N / L) := by have := Int.mul_ediv_add_emod N L; omega
    obtain ⟨span, hspan⟩ : ∃ span, N / L = span := ⟨_, rfl⟩
    rw [hspan] at hmul
    have s1 : 1 ≤ span := by
      by_cases z : 1 ≤ span
      · exact z
      · have : L * span ≤ 0 := Int.mul_nonpos_of_nonneg_of_nonpos (by omega) (by omega)
        omega
    have sN : span ≤ 48 := by
      have : 1 * span ≤ L * span := Int.mul_le_mul_of_nonneg_right L1 (by omega)
      omega
    obtain ⟨cap, hcap⟩ : ∃ cap, most / L = cap := ⟨_, rfl⟩
    have c1 : 1 ≤ cap := by rw [← hcap]; exact (Int.le_ediv_iff_mul_le (by omega)).mpr (by omega)
    have c2 : cap * L ≤ most := by rw [← hcap]; exact Int.ediv_mul_le _ (by omega)
    have c12 : cap ≤ 12 := by
      have : cap * 1 ≤ cap * L := Int.mul_le_mul_of_nonneg_left L1 (by omega)
      omega
    refine ⟨_, rfl, _, rfl, _, _, rfl, rfl, ⟨by omega, by omega⟩, ?_⟩
    show gName 4 (V.int (N / L)) _ _ _
    rw [hspan]
    have hmin : 0 < (if span < cap then span else cap) ∧ (if span < cap then span else cap) ≤ span ∧ (if span < cap then span else cap) ≤ cap := by
      by_cases z : span < cap
      · rw [if_pos z]; omega
      · rw [if_neg z]; omega
    refine ⟨_, rfl, _, rfl, _, rfl, _, _, rfl, rfl, ⟨by omega, by omega⟩, _, rfl, cap, span, (by show [V.int (most / L), V.int span] = _; rw [hcap]), p, _, rfl, hmin.1, by omega, hp, fun r H1 r0 r1 b1 p1 => ⟨_, _, rfl, rfl, ?_⟩⟩
    obtain ⟨many, hmany⟩ : ∃ many : Int, 1 + r = many := ⟨_, rfl⟩
    have mS : many ≤ span := by omega
    have mC : many ≤ cap := by omega
    have m1 : 1 ≤ many := by omega
    show gName 5 (V.int (1 + r)) _ _ _
    rw [hmany]
    refine ⟨(by show 0 ≤ sizeLine; decide), fun B hB => ?_⟩
    have pB : p ≠ B := p1.ne hB
    -- the begins
    refine ⟨_, rfl, many, rfl, by omega, by omega, for_it (walk_range (lo := 0)) (fun i σ H2 => ∃ (bs : List Int) (x7 x8 x9 : Option V), σ = [some (.ref p), some (.int N), some (.int L), some (.int most), some (.int span), some (.int many), some (.ref B), x7, x8, x9, none, none, none, none] ∧
        H2 B = some (.lst (bs.map V.int)) ∧ bs.length = i ∧ bs.Nodup ∧ (∀ b ∈ bs, 0 ≤ b ∧ b < span) ∧ (∀ b o, H1 b = some o → b ≠ p → H2 b = some o) ∧ PoolAt H2 p)
      ⟨[], none, none, none, rfl, upd_same, rfl, List.nodup_nil, (fun b hb => by cases hb), (fun b o e _ => by rw [upd_ne (ne_of_none e hB)]; exact e), p1.same (same_new hB)⟩ (fun _ _ _ _ _ => True.intro) ?_ ?_⟩
    · rintro i x σ H2 H3 hi ⟨bs, x7, x8, x9, rfl, hbs, hlen, hnd, hbd, hk, hp2⟩ ⟨rfl, rfl⟩
      refine ⟨_, rfl, _, rfl, p, span, rfl, by omega, by omega, hp2, fun b0 H4 b00 b01 k4 p4 => ?_⟩
      have h4B := k4 _ _ hbs pB.symm
      refine ⟨_, rfl, span, rfl, by omega, by omega, for_it (walk_range (lo := 0)) (fun j σ H5 => H5 = H4 ∧ ∃ (x9 : Option V), σ = [some (.ref p), some (.int N), some (.int L), some (.int most), some (.int span), some (.int many), some (.ref B), some (.int (0 + (i : Int))), some (.int ((b0 + j) % span)), x9, none, none, none, none] ∧ ∀ t : Nat, t < j → (b0 + (t : Int)) % span ∈ bs)
        ⟨rfl, x9, by rw [show b0 + ((0 : Nat) : Int) = b0 by omega, Int.emod_eq_of_lt b00 b01]; rfl, fun t ht => absurd ht (Nat.not_lt_zero _)⟩ (fun _ _ _ _ _ => True.intro) ?_ ?_⟩
      · rintro j y σ H5 H6 hj ⟨rfl, x9, rfl, hin⟩ ⟨rfl, rfl⟩
        refine ⟨_, rfl, _, rfl, B, _, rfl, .inl (SqL.of h4B), rfl, flat_ints bs, _, rfl, ?_⟩
        rw [inV_int]
        by_cases hm : (b0 + (j : Int)) % span ∈ bs
        · refine inD hm ?_
          refine ⟨_, rfl, _, _, rfl, rfl, _, rfl, _, _, rfl, rfl, by omega, rfl, some (.int (0 + (j : Int))), ?_, fun t ht => ?_⟩
          · show _ = [some (V.ref p), some (V.int N), some (V.int L), some (V.int most), some (V.int span), some (V.int many), some (V.ref B), some (V.int (0 + (i : Int))), some (V.int ((b0 + ((j + 1 : Nat) : Int)) % span)), some (V.int (0 + (j : Int))), none, none, none, none]
            rw [show (b0 + ((j + 1 : Nat) : Int)) = b0 + j + 1 by omega, ← Int.emod_add_emod (b0 + (j : Int)) span 1]
            rfl
          · rcases Nat.lt_succ_iff_lt_or_eq.mp ht with z | z
            · exact hin t z
            · rw [z]; exact hm
        · refine inN hm ?_
          -- break: it is a new one
          have hz0 : 0 ≤ (b0 + (j : Int)) % span := Int.emod_nonneg _ (by omega)
          have hz1 : (b0 + (j : Int)) % span < span := Int.emod_lt_of_pos _ (by omega)
          refine ⟨_, rfl, .inl ⟨rfl, _, SqL.of h4B⟩, _, rfl, B, _, _, rfl, rfl, h4B, by rw [List.length_map]; exact small1000 (by omega), ?_⟩
          refine ⟨bs ++ [(b0 + (j : Int)) % span], _, _, _, rfl, by rw [List.map_append]; exact upd_same, by rw [List.length_append, hlen]; rfl, ?_, ?_, ?_, (p4.but but_upd pB)⟩
          · rw [List.nodup_append]
            refine ⟨hnd, List.nodup_cons.mpr ⟨List.not_mem_nil, List.nodup_nil⟩, fun a ha b hb e => ?_⟩
            rw [List.mem_singleton.mp hb] at e
            exact hm (e ▸ ha)
          · intro b hb
            rcases List.mem_append.mp hb with z | z
            · exact hbd b z
            · rw [List.mem_singleton.mp z]
              exact ⟨hz0, hz1⟩
          · intro b o e hb
            have hbB : b ≠ B := ne_of_none e hB
            rw [upd_ne hbB]
            exact k4 _ _ (hk b o e hb) hb
      · rintro σ H5 ⟨rfl, x9, rfl, hin⟩
        exfalso
        have := all_rests (span := span) (b0 := b0) (bs := bs) (by omega) fun t ht => hin t (by omega)
        omega
    · rintro σ H2 ⟨bs0, x7, x8, x9, rfl, hbs, hlen, hnd, hbd, hk, hp2⟩
      -- sorted
      refine ⟨_, rfl, B, bs0, rfl, SqL.of hbs, fun bs C pm srt hC => ?_⟩
      have hlen' : bs.length = many.toNat := by rw [pm.length_eq, hlen]
      have hnd' : bs.Nodup := pm.nodup_iff.mpr hnd
      have hbd' : ∀ b ∈ bs, 0 ≤ b ∧ b < span := fun b hb => hbd b (pm.mem_iff.mp hb)
      have asc : bs.Pairwise (· < ·) := (srt.and (List.nodup_iff_pairwise_ne.mp hnd')).imp fun {a b} h => by have := h.1; have := h.2; omega
      have pC : p ≠ C := hp2.ne hC
      refine ⟨(by show 0 ≤ sizeLine; decide), fun D hD => ?_⟩
      have DC : D ≠ C := fun z => by rw [z, upd_same] at hD; cases hD
      have hD2 : H2 D = none := by rw [upd_ne DC] at hD; exact hD
      have pD : p ≠ D := hp2.ne hD2
      have gl : ∀ x : Int, 0 ≤ x → x < many → ∃ b, bs[x.toNat]? = some b ∧ atI (bs.map V.int) x = some (.int b) := fun x x0 x1 => by
        have hx : x.toNat < bs.length := by omega
        refine ⟨bs[x.toNat], List.getElem?_eq_getElem hx, ?_⟩
        have := atI_nat (xs := bs.map V.int) (j := x.toNat) (v := V.int bs[x.toNat]) (by rw [List.getElem?_map, List.getElem?_eq_getElem hx]; rfl)
        rw [Int.toNat_of_nonneg x0] at this
        exact this
      -- the pairs
      refine ⟨_, rfl, many, rfl, by omega, by omega, for_it (walk_range (lo := 0)) (fun i σ H3 => ∃ (offs : List Int) (vs : List V) (x7 x8 x9 x11 x12 x13 : Option V), σ = [some (.ref p), some (.int N), some (.int L), some (.int most), some (.int span), some (.int many), some (.ref C), x7, x8, x9, some (.ref D), x11, x12, x13] ∧
          H3 C = some (.lst (bs.map V.int)) ∧ H3 D = some (.lst vs) ∧ DpAll K H3 vs ((((bs.take i).zip offs).flatMap (rowsG N span L.toNat)).map prD) ∧ offs.length = i ∧
          (∀ (k : Nat) b o nb, bs[k]? = some b → offs[k]? = some o → bs[(k + 1) % bs.length]? = some nb → 0 ≤ o ∧ o < (nb - b - 1) % span + 1) ∧ (∀ b o, H2 b = some o → b ≠ p → H3 b = some o) ∧ PoolAt H3 p)
        ⟨[], [], _, _, _, none, none, none, rfl, by rw [upd_ne DC.symm]; exact upd_same, upd_same, .nil, rfl, (fun k b o nb _ h => by simp at h), (fun b o e _ => by rw [upd_ne (ne_of_none e hD2), upd_ne (ne_of_none e hC)]; exact e), (hp2.same (same_new hC)).same (same_new hD)⟩ (fun _ _ _ _ _ => True.intro) ?_ ?_⟩
      · rintro i x σ H3 H3' hi ⟨offs, vs, x7, x8, x9, x11, x12, x13, rfl, hC3, hD3, hda, hol, hoff, hk3, hp3⟩ ⟨rfl, rfl⟩
        have hi' : (i : Int) < many := by omega
        have i0 : (0 : Int) + (i : Int) = (i : Int) := by omega
        obtain ⟨nb, hnb, anb⟩ := gl (((0 : Int) + (i : Int) + 1) % many) (Int.emod_nonneg _ (by omega)) (Int.emod_lt_of_pos _ (by omega))
        obtain ⟨b, hb, ab⟩ := gl ((0 : Int) + (i : Int)) (by omega) (by omega)
        have hsz : 0 < (nb - b - 1) % span + 1 := by have := Int.emod_nonneg (nb - b - 1) (show span ≠ 0 by omega); omega
        have hsz2 : (nb - b - 1) % span + 1 ≤ span := by have := Int.emod_lt_of_pos (nb - b - 1) (show 0 < span by omega); omega
        refine ⟨_, rfl, _, rfl, _, _, rfl, rfl, _, rfl, _, _, rfl, rfl, by omega, C, _, _, _, rfl, rfl, SqL.of hC3, anb, _, rfl, _, rfl, C, _, _, _, rfl, rfl, SqL.of hC3, ab, _, _, rfl, rfl, _, _, rfl, rfl, _, rfl, _, _, rfl, rfl, by omega, _, _, rfl, rfl, ?_⟩
        refine ⟨_, rfl, _, rfl, p, _, rfl, hsz, by omega, hp3, fun off H4 o0 o1 k4 p4 => ?_⟩
        have hC4 := k4 _ _ hC3 pC.symm
        have hD4 := k4 _ _ hD3 pD.symm
        have hda4 : DpAll K H4 vs ((((bs.take i).zip offs).flatMap (rowsG N span L.toNat)).map prD) := by
          obtain ⟨xs, hpx, _⟩ := hp3
          exact prs_tkeep (k4.tkeep hpx) hda
        refine ⟨_, rfl, L, rfl, by omega, by omega, for_it (walk_range (lo := 0)) (fun j σ H5 => ∃ (vs : List V) (x8 x13 : Option V), σ = [some (.ref p), some (.int N), some (.int L), some (.int most), some (.int span), some (.int many), some (.ref C), some (.int (0 + (i : Int))), x8, x9, some (.ref D), some (.int ((nb - b - 1) % span + 1)), some (.int off), x13] ∧
            H5 D = some (.lst vs) ∧ DpAll K H5 vs ((((bs.take i).zip offs).flatMap (rowsG N span L.toNat) ++ (List.range j).map fun l : Nat => (b + l * span, (b + l * span + off) % N)).map prD) ∧ vs.length ≤ i * L.toNat + j ∧ (∀ b o, H4 b = some o → b ≠ D → H5 b = some o))
          ⟨vs, _, _, rfl, hD4, by rw [List.range_zero, List.map_nil, List.append_nil]; exact hda4, ?_, fun b o e _ => e⟩ (fun _ _ _ _ _ => True.intro) ?_ ?_⟩
        · have := dpAll_len hda4
          rw [this, List.length_map, List.length_flatMap]
          have e : ((bs.take i).zip offs).map (fun a => (rowsG N span L.toNat a).length) = List.replicate ((bs.take i).zip offs).length L.toNat := by
            rw [List.eq_replicate_iff]
            refine ⟨by rw [List.length_map], fun b hb => ?_⟩
            obtain ⟨a, _, rfl⟩ := List.mem_map.mp hb
            unfold rowsG
            rw [List.length_map, List.length_range]
          rw [e, List.sum_replicate_nat, List.length_zip, hol]
          exact Nat.le_trans (Nat.mul_le_mul_right _ (Nat.min_le_right _ _)) (Nat.le_refl _)
        · rintro j y σ H5 H6 hj ⟨vs5, y8, y13, rfl, hD5, hd5, hl5, hk5⟩ ⟨rfl, rfl⟩
          have hC5 := hk5 _ _ hC4 DC.symm
          refine ⟨_, rfl, _, rfl, C, _, _, _, rfl, rfl, SqL.of hC5, ab, _, rfl, _, rfl, _, _, rfl, rfl, .inr ⟨by omega, by omega⟩, _, _, rfl, rfl, ?_⟩
          have hiL : i * L.toNat + j < 1000 := by
            have h1 : i ≤ 12 := by omega
            have h2 : L.toNat ≤ 12 := by omega
            have : i * L.toNat ≤ 12 * 12 := Nat.mul_le_mul h1 h2
            omega
          refine ⟨_, rfl, .inl ⟨rfl, _, SqL.of hD5⟩, _, rfl, _, rfl, _, rfl, _, _, rfl, rfl, _, rfl, _, _, rfl, rfl, by omega, (by show 2 ≤ sizeLine; decide), fun t ht => ?_⟩
          have tD : D ≠ t := ne_of_none hD5 ht
          refine ⟨D, _, _, rfl, rfl, by rw [upd_ne tD]; exact hD5, small1000 (by omega), ?_⟩
          refine ⟨_, _, _, rfl, upd_same, ?_, by rw [List.length_append]; exact Nat.succ_le_succ hl5, fun b o e hb => by rw [upd_ne hb, upd_ne (ne_of_none (hk5 b o e hb) ht)]; exact hk5 b o e hb⟩
          rw [List.range_succ, List.map_append, List.map_append, List.map_append, ← List.append_assoc, ← List.map_append]
          have kk : TKeep K (upd H6 t (.tup [.int (b + (0 + (j : Int)) * span), .int ((b + (0 + (j : Int)) * span + off) % N)])) (upd (upd H6 t (.tup [.int (b + (0 + (j : Int)) * span), .int ((b + (0 + (j : Int)) * span + off) % N)])) D (.lst (vs5 ++ [.ref t]))) := lst_tkeep (by rw [upd_ne tD]; exact hD5)
          refine dpAll_app (prs_tkeep kk (dpAll_same (same_new ht) _ _ hd5)) (dpAll_one ?_)
          have : Dp K (upd H6 t (.tup [.int (b + (0 + (j : Int)) * span), .int ((b + (0 + (j : Int)) * span + off) % N)])) (.ref t) (prD (b + (0 + (j : Int)) * span, (b + (0 + (j : Int)) * span + off) % N)) := pr_dp (SqT.of upd_same)
          obtain ⟨t', et, hs'⟩ := dp_pr this
          cases et
          have e9 : prD (b + (0 + (j : Int)) * span, (b + (0 + (j : Int)) * span + off) % N) = prD (b + (j : Int) * span, (b + (j : Int) * span + off) % N) := by rw [Int.zero_add]
          exact Eq.mp (congrArg (Dp K _ (V.ref t)) e9) (pr_dp (kk _ _ hs'))
        · rintro σ H5 ⟨vs5, y8, y13, rfl, hD5, hd5, hl5, hk5⟩
          refine ⟨offs ++ [off], vs5, _, _, _, _, _, _, rfl, hk5 _ _ hC4 DC.symm, hD5, ?_, by rw [List.length_append, hol]; rfl, ?_, ?_, p4.but (fun b o e hb => hk5 b o e hb) pD⟩
          · have hb' : bs[i]? = some b := by rw [← hb]; congr 1; omega
            rw [List.take_succ, hb']
            have hi2 : (bs.take i).length = offs.length := by rw [List.length_take, hol]; omega
            rw [show (some b).toList = [b] from rfl, List.zip_append hi2, List.flatMap_append]
            show DpAll K H5 vs5 (((((bs.take i).zip offs).flatMap (rowsG N span L.toNat)) ++ [(b, off)].flatMap (rowsG N span L.toNat)).map prD)
            rw [List.flatMap_singleton]
            exact hd5
          · intro k b' o nb' h1 h2 h3
            rcases Nat.lt_or_ge k offs.length with z | z
            · rw [List.getElem?_append_left z] at h2
              exact hoff k b' o nb' h1 h2 h3
            · rw [List.getElem?_append_right z] at h2
              have hk : k = i := by
                have := (List.getElem?_eq_some_iff.mp h2).1
                have e : ([off] : List Int).length = 1 := rfl
                omega
              subst hk
              rw [hol, Nat.sub_self] at h2
              cases h2
              have e1 : b' = b := by
                have : bs[k]? = some b := by rw [← hb]; congr 1; omega
                rw [h1] at this
                exact Option.some.inj this
              have e2 : nb' = nb := by
                have : bs[(k + 1) % bs.length]? = some nb := by
                  rw [← hnb]
                  congr 1
                  rw [hlen']
                  have h5 : ((0 : Int) + (k : Int) + 1) % many = ((k + 1 : Nat) : Int) % ((many.toNat : Nat) : Int) := by
                    rw [Int.toNat_of_nonneg (by omega)]
                    congr 1
                    omega
                  rw [h5, ← Int.natCast_emod]
                  rfl
                rw [h3] at this
                exact Option.some.inj this
              subst e1 e2
              exact ⟨o0, o1⟩
          · intro x o e hx
            have hxD : x ≠ D := ne_of_none e hD2
            exact hk5 _ _ (k4 _ _ (hk3 x o e hx) hx) hxD
      · rintro σ H3 ⟨offs, vs, x7, x8, x9, x11, x12, x13, rfl, hC3, hD3, hda, hol, hoff, hk3, hp3⟩
        have htk : bs.take many.toNat = bs := by rw [List.take_of_length_le (by omega)]
        have hol' : offs.length = many.toNat := by rw [hol]
        rw [htk] at hda
        have Dr : Drawn' N span L.toNat bs offs := ⟨by rw [Int.toNat_of_nonneg (by omega)]; exact hmul, by omega, by omega, by omega, by omega, asc, hbd', hoff, by
          have h1 : (bs.length : Int) * (L.toNat : Int) ≤ cap * L := by
            rw [Int.toNat_of_nonneg (by omega)]
            exact Int.mul_le_mul_of_nonneg_right (by omega) (by omega)
          have h2 : ((bs.length * L.toNat : Nat) : Int) = (bs.length : Int) * (L.toNat : Int) := Int.natCast_mul _ _
          omega⟩
        obtain ⟨g1, g2, g3, g4⟩ := rows_good Dr
        refine ⟨_, rfl, D, vs, _, rfl, SqL.of hD3, hda, PySem.W.AllAlike.of fun a b => alike_pr a b, PySem.W.Sortable.tuples fun b => ⟨_, _, rfl⟩, fun b _ => by rw [prD_depth]; decide, fun l ys hl hys => ?_⟩
        rw [dataLe_pr] at hys
        refine q _ l ys _ ⟨g1, ?_, by rw [hspan]; exact g3, g4⟩ ?_ (hp3.same (same_new hl)) ?_ upd_same (dpAll_same (same_new hl) _ _ hys)
        · rw [g2]
          have h1 : (bs.length : Int) * (L.toNat : Int) ≤ cap * L := by
            rw [Int.toNat_of_nonneg (by omega)]
            exact Int.mul_le_mul_of_nonneg_right (by omega) (by omega)
          have h2 : ((bs.length * L.toNat : Nat) : Int) = (bs.length : Int) * (L.toNat : Int) := Int.natCast_mul _ _
          omega
        · intro x o e hx
          have h2 := hk x o (b1 _ _ e hx) hx
          have h3 := hk3 x o h2 hx
          rw [upd_ne (ne_of_none h3 hl)]
          exact h3
        · cases z : H l with
          | none => rfl
          | some o =>
            exfalso
            by_cases hx : l = p
            · obtain ⟨xs, hpx, _⟩ := hp3
              rw [← hx, hl] at hpx
              cases hpx
            · have h3 := hk3 l o (hk l o (b1 _ _ z hx) hx) hx
              rw [hl] at h3
              cases h3
end
end L2.Jw
set_option Elab.async false
set_option linter.all false
set_option maxRecDepth 100000
set_option maxHeartbeats 4000000
namespace L2.Jw
open PySem PySem.Spec PyProof.Rows
section
variable {P : Program} {w : World} {K : PySem.W.Frag} {mg : Str → Option Value} {base : Heap} {c : Cs}
def dl (H : Hp) (a : Addr) : Hp := fun b => if b = a then none else H b
theorem dl_ne {H : Hp} {a b : Addr} (h : b ≠ a) : dl H a b = H b := if_neg h
theorem dl_some {H : Hp} {a b : Addr} {o : HO} (h : dl H a b = some o) : H b = some o ∧ b ≠ a := by
  unfold dl at h
  by_cases e : b = a
  · rw [if_pos e] at h; cases h
  · rw [if_neg e] at h; exact ⟨h, e⟩
theorem dl_sub {H : Hp} {a : Addr} : Same (dl H a) H := fun b o h => (dl_some h).1
theorem dl_but {H H' : Hp} {a : Addr} (e : But a H H') : Same (dl H a) (dl H' a) := fun b o h => by
  obtain ⟨h1, h2⟩ := dl_some h
  rw [dl_ne h2]
  exact e b o h1 h2
/-! ### the law's kinds -/
def pairsKs (ls : Addr) : Option Addr → List (Key × V)
  | none => [(Sum.inr ("squeeze" : Str), V.ref ls)]
  | some lp => [(Sum.inr ("squeeze" : Str), V.ref ls), (Sum.inr ("push" : Str), V.ref lp)]
def kindKs (dp wl : Addr) : List (Key × V) := [(Sum.inr ("pairs" : Str), V.ref dp), (Sum.inr ("widths" : Str), V.ref wl)]
/-- a list of rows -/
def RowsAt (K : PySem.W.Frag) (H : Hp) (l : Addr) (rows : List (Int × Int)) : Prop := ∃ xs, H l = some (.lst xs) ∧ DpAll K H xs (rows.map prD)
theorem RowsAt.same {H H' : Hp} {l : Addr} {rows : List (Int × Int)} (h : RowsAt K H l rows) (e : Same H H') : RowsAt K H' l rows := by
  obtain ⟨xs, h1, h2⟩ := h
  exact ⟨xs, e _ _ h1, dpAll_same e _ _ h2⟩
structure KindAt (K : PySem.W.Frag) (H : Hp) (a : Addr) (N : Int) : Prop where
  ob : ∃ dp wl ls lp rows L gap, H a = some (.dK (kindKs dp wl)) ∧ H dp = some (.dK (pairsKs ls lp)) ∧ RowsAt K H ls rows ∧ RowsOk N L 4 rows ∧ lapsOk N 4 L true ∧ H wl = some (.lst (gap.map V.int)) ∧ GoodGap N gap ∧
    ∀ l, lp = some l → ∃ prow L2, RowsAt K H l prow ∧ RowsOk N L2 4 prow
theorem KindAt.same {H H' : Hp} {a : Addr} {N : Int} (h : KindAt K H a N) (e : Same H H') : KindAt K H' a N := by
  obtain ⟨dp, wl, ls, lp, rows, L, gap, h1, h2, h3, h4, h5, h6, h7, h8⟩ := h.ob
  refine ⟨dp, wl, ls, lp, rows, L, gap, e _ _ h1, e _ _ h2, h3.same e, h4, h5, e _ _ h6, h7, fun l hl => ?_⟩
  obtain ⟨prow, L2, g1, g2⟩ := h8 l hl
  exact ⟨prow, L2, g1.same e, g2⟩
/-! ### making, told of what is new -/
theorem pe_New {X : Cx} {CX : CXT} {k : Nat} {x : Str} {C : Addr} {sp spN : Sp} {E : XK} {e : Expr} {es : List Expr} {t : TA} {p pos : Pos} (D : Mkr X.prog X.w X.K X.mg X.base CX k x C sp) (hr : Room (k + 1) X.A) (hg : Gl X x) (hx : Passes CX X E)
    (hsp : ∀ vs H Q, spN vs H Q E → ∀ x dx, H x = none → H dx = none → dx ≠ x → sp (V.ref x :: vs) (upd (upd H dx (.own x)) x (.ins C dx [])) (fun v H2 => v = .non ∧ Q (.ref x) H2) E) (ha : PA X (e :: es) t)
    (hdb : (x == ("__debug__" : Str)) = false := by decide) (he : starEach (e :: es) X.env = (false, eval e X.env) :: starEach es X.env := by rfl) (hpl : (backTo pos (starEach es X.env)).any (·.1) = false := by rfl) :
    PE X (.Call (.Name x p) (e :: es) [] pos) (tD spN E t) := by
  obtain ⟨f, hm, M, F⟩ := D
  refine ⟨fun pins s σ H Q I h => ?_⟩
  refine wpAny_Call_Name_kw (ld_glob I hg hm ?_ hdb)
  refine PySem.W.callWith_K (h₀ := X.base) I.ok.mod.kin M.kp (thn (ha.run pos pins s σ H _ I h) fun us s1 ⟨vs, H1, I1, r, q⟩ => ⟨I1.kIn, ?_⟩) he hpl
  exact StX.run_makeR M F hr hx I1 r fun x dx h1 h2 h3 => hsp vs H1 Q q x dx h1 h2 h3
theorem same_made {H : Hp} {x dx C : Addr} (h1 : H x = none) (h2 : H dx = none) : Same H (upd (upd H dx (.own x)) x (.ins C dx [])) := fun b o e => by
  rw [upd_ne (ne_of_none e h1), upd_ne (ne_of_none e h2)]
  exact e
def spTurnN (K : PySem.W.Frag) (c : Cs) : Sp := fun vs H Q _ => ∃ (N : Int) (a : Addr) (rows : List (Int × Int)), vs = [.int N, .ref a] ∧ 2 ≤ N ∧ N ≤ 360 ∧ RowsAt K H a rows ∧ GoodRows N rows ∧ ∀ p H' per, Same H H' → PeriodOf N rows per → TurnAt K c H' p N rows per → Q (.ref p) H'
theorem nw_Turning : ∀ (vs : List V) (H : Hp) (Q : VK), spTurnN K c vs H Q E0 → ∀ x dx, H x = none → H dx = none → dx ≠ x → spTurnI K c (V.ref x :: vs) (upd (upd H dx (.own x)) x (.ins c.Tu dx [])) (fun v H2 => v = .non ∧ Q (.ref x) H2) E0 := by
  rintro vs H Q ⟨N, a, rows, rfl, n1, n2, ⟨xs, h1, h2⟩, G, q⟩ x dx hx hdx hne
  have e := same_made (C := c.Tu) hx hdx
  exact ⟨x, dx, N, a, xs, rows, rfl, upd_same, n1, n2, e _ _ h1, dpAll_same e _ _ h2, G, fun H' per b hp ht => ⟨rfl, q x H' per (b.same e hx) hp ht⟩⟩
def spPartN (K : PySem.W.Frag) (c : Cs) : Sp := fun vs H Q _ => ∃ (sq : Addr) (pu : V) (wl : Addr) (N : Int) (d : PartD), vs = [.ref sq, pu, .ref wl] ∧ PartOk N d ∧ TurnAt K c H sq N d.rows d.per ∧
  (match d.push with | none => pu = .non | some pp => ∃ pt rows2, pu = .ref pt ∧ TurnAt K c H pt N rows2 pp) ∧ H wl = some (.lst (d.gap.map V.int)) ∧ ∀ p H', Same H H' → PartAt K c H' p N d → Q (.ref p) H'
theorem nw_Part : ∀ (vs : List V) (H : Hp) (Q : VK), spPartN K c vs H Q E0 → ∀ x dx, H x = none → H dx = none → dx ≠ x → spPartI K c (V.ref x :: vs) (upd (upd H dx (.own x)) x (.ins c.Pa dx [])) (fun v H2 => v = .non ∧ Q (.ref x) H2) E0 := by
  rintro vs H Q ⟨sq, pu, wl, N, d, rfl, G, h1, h2, h3, q⟩ x dx hx hdx hne
  have e := same_made (C := c.Pa) hx hdx
  refine ⟨x, dx, sq, pu, wl, N, d, rfl, upd_same, G, h1.same e, ?_, e _ _ h3, fun H' b hp => ⟨rfl, q x H' (b.same e hx) hp⟩⟩
  cases hd : d.push with
  | none => rw [hd] at h2; exact h2
  | some pp =>
    rw [hd] at h2
    obtain ⟨pt, r2, g1, g2⟩ := h2
    exact ⟨pt, r2, g1, g2.same e⟩
/-! ### _law_shown_part -/
theorem ord_rows {N : Int} {rows : List (Int × Int)} (h : Ord N rows) : 0 < N := h.pos
theorem half_of {N L most per : Int} {rows : List (Int × Int)} (R : RowsOk N L most rows) (hl : lapsOk N most L true) (hp : PeriodOf N rows per) : N / 2 % per = 0 := by
  obtain ⟨l1, l2, l3, l4⟩ := hl
  have h2 := l4 rfl
  have hN : N = L * (N / L) := by have := Int.mul_ediv_add_emod N L; omega
  obtain ⟨q, hq⟩ : ∃ q, L = 2 * q := ⟨L / 2, by omega⟩
  have e : N / 2 = q * (N / L) := by
    have : N = 2 * (q * (N / L)) := by
      rw [← Int.mul_assoc, ← hq]
      exact hN
    omega
  have d := period_dvd R.ord hp R.inv (Int.ediv_nonneg (Int.le_of_lt R.ord.pos) (by omega))
  rw [e, Int.mul_emod, d, Int.mul_zero, Int.zero_emod]
def spShownPart (K : PySem.W.Frag) (c : Cs) : Sp := fun vs H Q _ => ∃ (a : Addr) (N : Int), vs = [.ref a, .int N] ∧ 2 ≤ N ∧ N ≤ 48 ∧ N % 2 = 0 ∧ KindAt K H a N ∧ ∀ p H' pd, Same H H' → PartOk N pd → PartAt K c H' p N pd → Q (.ref p) H'
abbrev s__law_shown_part : Stmt := top 67
theorem c__law_shown_part : FnScope ["_law_kind", "_law_around", "_law_push"] ["_law_kind", "_law_around"] (defScope s__law_shown_part) := ⟨rfl, rfl, rfl, by decide +kernel, rfl, by decide +kernel, by decide +kernel⟩
theorem b__law_shown_part : Bnd0 "_law_shown_part" "_law_shown_part" s__law_shown_part ["_law_kind", "_law_around"] := fun _ _ _ _ _ _ us hl => match us, hl with | [_, _], _ => rfl
theorem d__law_shown_part (T : Tx K mg c) : Df P w K mg base CX0 7 "_law_shown_part" (spShownPart K c) := by
  refine df_0 T.D__law_shown_part c__law_shown_part b__law_shown_part (fun vs H Q E h => ?_) fun f cdv A outer s H vs Q E hr h => ?_
  · obtain ⟨a, N, rfl, _⟩ := h
    rfl
  · obtain ⟨a, N, rfl, n2, n48, ne, ka, q⟩ := h
    obtain ⟨dp, wl, ls, lp, rows, L, gap, h1, h2, ⟨xs, h3, h3d⟩, h4, h5, h6, h7, h8⟩ := ka.ob
    have gp : DGet H a (.str "pairs") (some (.ref dp)) := by
      have : valV (kindKs dp wl) (Sum.inr ("pairs" : Str)) = some (V.ref dp) := by unfold kindKs; kernel_rfl
      rw [← this]; exact DGet.k (k := Sum.inr ("pairs" : Str)) h1
    have tailR : ∀ {H1 : Hp}, Same H H1 → DGet H1 a (.str "pairs") (some (.ref dp)) ∧ DGet H1 dp (.str "squeeze") (some (.ref ls)) ∧ DGet H1 a (.str "widths") (some (.ref wl)) := fun {H1} e => by
      refine ⟨?_, ?_, ?_⟩
      · have : valV (kindKs dp wl) (Sum.inr ("pairs" : Str)) = some (V.ref dp) := by unfold kindKs; kernel_rfl
        rw [← this]; exact DGet.k (k := Sum.inr ("pairs" : Str)) (e _ _ h1)
      · have : valV (pairsKs ls lp) (Sum.inr ("squeeze" : Str)) = some (V.ref ls) := by
          cases lp with
          | none => unfold pairsKs; kernel_rfl
          | some l => unfold pairsKs; kernel_rfl
        rw [← this]; exact DGet.k (k := Sum.inr ("squeeze" : Str)) (e _ _ h2)
      · have : valV (kindKs dp wl) (Sum.inr ("widths" : Str)) = some (V.ref wl) := by unfold kindKs; kernel_rfl
        rw [← this]; exact DGet.k (k := Sum.inr ("widths" : Str)) (e _ _ h1)
    refine ⟨_, (pss_cons (ps_set (i := 2) c__law_shown_part.nd rfl (Or.inl rfl) pe_non)
      (pss_cons (ps_if (pt_cmp (pc_din (hu_of hr) pe_str (pe_dget (hu_of hr) (pv 0) pe_str (fun _ _ => rfl)))) (pss_one (ps_set (i := 2) c__law_shown_part.nd rfl (Or.inl rfl) (pe_New (m_Turning T) (hr.mono (by first | decide | omega)) rfl pass0 nw_Turning (pa_cons (pv 1) (pa_cons (pe_callTy call_list_of (by rfl) T.list (by decide +kernel) (pa_cons (pe_dget (hu_of hr) (pe_dget (hu_of hr) (pv 0) pe_str (fun _ _ => rfl)) pe_str (fun _ _ => rfl)) pa_nil)) pa_nil))))) pss_nil)
      (pss_one (ps_ret (pe_New (m_Part T) (hr.mono (by first | decide | omega)) rfl pass0 nw_Part (pa_cons (pe_New (m_Turning T) (hr.mono (by first | decide | omega)) rfl pass0 nw_Turning (pa_cons (pv 1) (pa_cons (pe_callTy call_list_of (by rfl) T.list (by decide +kernel) (pa_cons (pe_dget (hu_of hr) (pe_dget (hu_of hr) (pv 0) pe_str (fun _ _ => rfl)) pe_str (fun _ _ => rfl)) pa_nil)) pa_nil))) (pa_cons (pv 2) (pa_cons (pe_callTy call_list_of (by rfl) T.list (by decide +kernel) (pa_cons (pe_dget (hu_of hr) (pv 0) pe_str (fun _ _ => rfl)) pa_nil)) pa_nil)))))))), ?_⟩
    refine ⟨_, rfl, a, _, rfl, gp, dp, _, rfl, DGet.k (k := Sum.inr ("push" : Str)) h2, _, rfl, ?_⟩
    cases lp with
    | none =>
      have hv : valV (pairsKs ls none) (Sum.inr ("push" : Str)) = none := by unfold pairsKs; kernel_rfl
      rw [hv]
      refine iteF ?_
      obtain ⟨t1, t2, t3⟩ := tailR (Same.refl H)
      refine ⟨_, rfl, _, rfl, a, _, rfl, t1, dp, _, rfl, t2, ls, xs, rfl, .inl (SqL.of h3), fun l hl => ?_⟩
      have e1 := same_new (o := .lst xs) hl
      refine ⟨N, l, rows, rfl, n2, by omega, ⟨xs, upd_same, dpAll_same e1 _ _ h3d⟩, h4.good, fun tp H2 per e2 hper ht => ?_⟩
      have e12 := e1.trans e2
      refine ⟨_, rfl, _, rfl, a, _, rfl, (tailR e12).2.2, wl, _, rfl, .inl (SqL.of (e12 _ _ h6)), fun l2 hl2 => ?_⟩
      have e3 := same_new (o := .lst (gap.map V.int)) hl2
      exact ⟨tp, .non, l2, N, ⟨rows, per, none, gap⟩, rfl, ⟨n2, n48, ne, h4.good, by have := h4.few; show rows.length ≤ 4; omega, hper.pos, hper.le, half_of h4 h5 hper, (fun _ z => by cases z), h7⟩, ht.same e3, rfl, upd_same, fun p H' e hp => q p H' _ (e12.trans (e3.trans e)) ⟨n2, n48, ne, h4.good, by have := h4.few; show rows.length ≤ 4; omega, hper.pos, hper.le, half_of h4 h5 hper, (fun _ z => by cases z), h7⟩ hp⟩
    | some lp =>
      obtain ⟨prow, L2, ⟨ys, g1, g1d⟩, g2⟩ := h8 lp rfl
      have hv : valV (pairsKs ls (some lp)) (Sum.inr ("push" : Str)) = some (.ref lp) := by unfold pairsKs; kernel_rfl
      rw [hv]
      refine iteT ?_
      obtain ⟨t1, t2, t3⟩ := tailR (Same.refl H)
      refine ⟨_, rfl, _, rfl, a, _, rfl, t1, dp, _, rfl, (by rw [← hv]; exact DGet.k (k := Sum.inr ("push" : Str)) h2), lp, ys, rfl, .inl (SqL.of g1), fun l hl => ?_⟩
      have e1 := same_new (o := .lst ys) hl
      refine ⟨N, l, prow, rfl, n2, by omega, ⟨ys, upd_same, dpAll_same e1 _ _ g1d⟩, g2.good, fun tp1 H2 per1 e2 hper1 ht1 => ?_⟩
      have e12 := e1.trans e2
      obtain ⟨t1, t2, t3⟩ := tailR e12
      refine ⟨_, rfl, _, rfl, a, _, rfl, t1, dp, _, rfl, t2, ls, xs, rfl, .inl (SqL.of (e12 _ _ h3)), fun l hl => ?_⟩
      have e4 := same_new (o := .lst xs) hl
      refine ⟨N, l, rows, rfl, n2, by omega, ⟨xs, upd_same, dpAll_same (e12.trans e4) _ _ h3d⟩, h4.good, fun tp H5 per e5 hper ht => ?_⟩
      have e15 := e12.trans (e4.trans e5)
      refine ⟨_, rfl, _, rfl, a, _, rfl, (tailR e15).2.2, wl, _, rfl, .inl (SqL.of (e15 _ _ h6)), fun l2 hl2 => ?_⟩
      have e3 := same_new (o := .lst (gap.map V.int)) hl2
      have pk : PartOk N ⟨rows, per, some per1, gap⟩ := ⟨n2, n48, ne, h4.good, by have := h4.few; show rows.length ≤ 4; omega, hper.pos, hper.le, half_of h4 h5 hper, (fun _ z => by cases z; exact ⟨hper1.pos, hper1.le⟩), h7⟩
      exact ⟨tp, .ref tp1, l2, N, ⟨rows, per, some per1, gap⟩, rfl, pk, ht.same e3, ⟨tp1, prow, rfl, ht1.same (e4.trans (e5.trans e3))⟩, upd_same, fun p H' e hp => q p H' _ (e15.trans (e3.trans e)) pk hp⟩
end
end L2.Jw
set_option Elab.async false
set_option linter.all false
set_option maxRecDepth 100000
set_option maxHeartbeats 4000000
namespace L2.Jw
open PySem PySem.Spec PyProof.Rows
section
variable {P : Program} {w : World} {K : PySem.W.Frag} {mg : Str → Option Value} {base : Heap} {c : Cs}
theorem dl_tkeep {H : Hp} {A : Addr} {xs : List V} (h : H A = some (.lst xs)) : TKeep K H (dl H A) := fun b ys hs => by
  rcases hs with (hs | ⟨o, hs⟩) | hs
  · exact .inl (.inl (by rw [dl_ne (fun z => by rw [z, h] at hs; cases hs)]; exact hs))
  · exact .inl (.inr ⟨o, by rw [dl_ne (fun z => by rw [z, h] at hs; cases hs)]; exact hs⟩)
  · exact .inr hs
theorem RowsAt.keep {H H' : Hp} {l : Addr} {rows : List (Int × Int)} (h : RowsAt K H l rows) (k : TKeep K H H') (e : ∀ o, H l = some o → H' l = some o) : RowsAt K H' l rows := by
  obtain ⟨xs, h1, h2⟩ := h
  exact ⟨xs, e _ h1, prs_tkeep k h2⟩
def spShown (K : PySem.W.Frag) : Sp := fun vs H Q _ => ∃ (a : Addr) (ns : List Int) (b many N : Int), vs = [.ref a, .int b, .int many, .int N, .int 4] ∧ SqL K H a (ns.map V.int) ∧ 0 ≤ b ∧ b < 1000 ∧ 0 ≤ many ∧ many ≤ 3 ∧ 2 ≤ N ∧ N ≤ 48 ∧ N % 2 = 0 ∧
  ∀ A vs H', Same H H' → H' A = some (.lst vs) → (vs.length : Int) = many → (∀ v ∈ vs, ∃ a, v = .ref a ∧ KindAt K H' a N) → Q (.ref A) H'
theorem goodGap_half {N : Int} {hs : List Int} (n2 : 2 ≤ N) (n48 : N ≤ 48) (ne : N % 2 = 0) (hl : (hs.length : Int) = N / 2) (hb : ∀ y ∈ hs, 0 ≤ y ∧ y ≤ 1000000000000) : GoodGap N (hs ++ hs) where
  n2 := n2
  ns := by omega
  len := by rw [List.length_append]; omega
  bnd := fun y hy => by
    rcases List.mem_append.mp hy with z | z
    · exact hb y z
    · exact hb y z
  half := fun i y hi => by
    have hlt := (List.getElem?_eq_some_iff.mp hi).1
    rw [List.length_append] at hlt
    rcases Nat.lt_or_ge i hs.length with z | z
    · rw [List.getElem?_append_left z] at hi
      have e : (((i : Int) + N / 2) % N).toNat = i + hs.length := by
        rw [Int.emod_eq_of_lt (by omega) (by omega)]
        omega
      rw [e, List.getElem?_append_right (Nat.le_add_left _ _), Nat.add_sub_cancel]
      exact hi
    · rw [List.getElem?_append_right z] at hi
      have e : (((i : Int) + N / 2) % N).toNat = i - hs.length := by
        rw [show (i : Int) + N / 2 = ((i : Int) + N / 2 - N) + N by omega, Int.add_emod_right, Int.emod_eq_of_lt (by omega) (by omega)]
        omega
      rw [e, List.getElem?_append_left (by omega)]
      exact hi
abbrev s__law_shown : Stmt := top 66
theorem c__law_shown : FnScope ["_law_script", "_law_begin", "_law_many", "_law_around", "_law_most", "_law_kinds", "_law_k", "_law_pool_here", "_law_limit", "_law_pushed", "_law_pairs", "_law_half", "_law_x"] ["_law_script", "_law_begin", "_law_many", "_law_around", "_law_most"] (defScope s__law_shown) := ⟨rfl, rfl, rfl, by decide +kernel, rfl, by decide +kernel, by decide +kernel⟩
theorem b__law_shown : Bnd0 "_law_shown" "_law_shown" s__law_shown ["_law_script", "_law_begin", "_law_many", "_law_around", "_law_most"] := fun _ _ _ _ _ _ us hl => match us, hl with | [_, _, _, _, _], _ => rfl
theorem d__law_shown (T : Tx K mg c) : Df P w K mg base CX0 3 "_law_shown" (spShown K) := by
  refine df_0 T.D__law_shown c__law_shown b__law_shown (fun vs H Q E h => ?_) fun f cdv A outer s H vs Q E hr h => ?_
  · obtain ⟨a, ns, b, many, N, rfl, _⟩ := h
    rfl
  · obtain ⟨a, ns, b, many, N, rfl, hs, b0, b1, m0, m3, n2, n48, ne, q⟩ := h
    refine ⟨_, (pss_cons (ps_set (i := 5) c__law_shown.nd rfl (Or.inl rfl) (pe_lst pa_nil))
      (pss_cons (ps_for PassesOwn.never rfl (pi_range1 (by rfl) T.range (pa_cons (pv 2) pa_nil)) (pg_name (i := 6) c__law_shown.nd rfl (Or.inl rfl))
      (pss_cons (ps_set (i := 7) c__law_shown.nd rfl (Or.inr rfl) (pe_D (d__law_pool T) (hr.mono (by first | decide | omega)) rfl pass0 (pa_cons (pv 0) (pa_cons (pe_op op_add (pv 1) (pv 6)) pa_nil))))
      (pss_cons (ps_set (i := 8) c__law_shown.nd rfl (Or.inr rfl) (pe_ix (r := rIxL K) ix_list (pe_lst (pa_cons pe_int (pa_cons pe_int (pa_cons pe_int (pa_cons (pe_op op_add (pe_op op_pow pe_int pe_int) pe_int) pa_nil))))) (pe_D (d__law_draw T) (hr.mono (by first | decide | omega)) rfl pass0 (pa_cons (pv 7) (pa_cons pe_int pa_nil))) (fun _ _ => rfl)))
      (pss_cons (ps_set (i := 9) c__law_shown.nd rfl (Or.inl rfl) (pe_cmpR op_eq (pe_D (d__law_draw T) (hr.mono (by first | decide | omega)) rfl pass0 (pa_cons (pv 7) (pa_cons pe_int pa_nil))) pe_int (nomark _)))
      (pss_cons (ps_set (i := 10) c__law_shown.nd rfl (Or.inl rfl) (pe_disp (pps_cons pe_str (pe_D (d__law_rows T) (hr.mono (by first | decide | omega)) rfl pass0 (pa_cons (pv 7) (pa_cons (pv 3) (pa_cons (pe_D (d__law_laps T) (hr.mono (by first | decide | omega)) rfl pass0 (pa_cons (pv 7) (pa_cons (pv 3) (pa_cons pe_bl (pa_cons (pv 4) pa_nil))))) (pa_cons (pv 4) pa_nil))))) pps_nil) (by rfl) (by rfl) (fun z => by cases z) (by decide)))
      (pss_cons (ps_if (pt_val (pv 9)) (pss_one (ps_dput (hu_of hr) (pv 10) pe_str (pe_D (d__law_rows T) (hr.mono (by first | decide | omega)) rfl pass0 (pa_cons (pv 7) (pa_cons (pv 3) (pa_cons (pe_D (d__law_laps T) (hr.mono (by first | decide | omega)) rfl pass0 (pa_cons (pv 7) (pa_cons (pv 3) (pa_cons pe_bl (pa_cons (pv 4) pa_nil))))) (pa_cons (pv 4) pa_nil))))) rfl)) pss_nil)
      (pss_cons (ps_setLc (i := 11) (own := [("_law_x", 12)]) (g := (gName 12)) (tt := tYes) (by rfl) c__law_shown.nd rfl rfl (sw_true rfl rfl rfl (by decide +kernel)) (pi_range1 (by rfl) T.range (pa_cons (pe_op op_fdiv (pv 3) pe_int) pa_nil)) (blkOk_by (own := [("_law_x", 12)]) (N := ["_law_script", "_law_begin", "_law_many", "_law_around", "_law_most", "_law_kinds", "_law_k", "_law_pool_here", "_law_limit", "_law_pushed", "_law_pairs", "_law_half", "_law_x"]) (sc := defScope s__law_shown) (by decide +kernel)) (fun _ _ _ _ _ => (pg_name (i := 12) c__law_shown.nd rfl (Or.inl rfl))) (fun _ _ _ _ _ => pts_nil) (fun _ _ _ _ _ => (pe_D (d__law_draw T) (hr.mono (by first | decide | omega)) rfl pass0 (pa_cons (pv 7) (pa_cons (pv 8) pa_nil)))))
      (pss_one (ps_expr (pe_bm PySem.F.plainAttrs_list PySem.F.slot_list_append PySem.F.type_list_append mt_append (pv 5) (pa_cons (pe_disp (pps_cons pe_str (pv 10) (pps_cons pe_str (pe_op op_cat (pv 11) (pv 11)) pps_nil)) (by rfl) (by rfl) (fun z => by cases z) (by decide)) pa_nil)))))))))))
      (pss_one (ps_ret (pv 5))))), ?_⟩
    refine ⟨(by show 0 ≤ sizeLine; decide), fun A hA => ?_⟩
    have eA := same_new (o := .lst []) hA
    refine ⟨_, rfl, many, rfl, by omega, by omega, for_it (walk_range (lo := 0)) (fun i σ H2 => ∃ (vs : List V) (x6 x7 x8 x9 x10 x11 x12 : Option V), σ = [some (.ref a), some (.int b), some (.int many), some (.int N), some (.int 4), some (.ref A), x6, x7, x8, x9, x10, x11, x12] ∧
        Same H H2 ∧ H2 A = some (.lst vs) ∧ vs.length = i ∧ ∀ v ∈ vs, ∃ k, v = .ref k ∧ KindAt K (dl H2 A) k N)
      ⟨[], none, none, none, none, none, none, none, rfl, eA, upd_same, rfl, (fun v hv => by cases hv)⟩ (fun _ _ _ _ _ => True.intro) ?_ ?_⟩
    · rintro i x σ H2' H2 hi ⟨vs, x6, x7, x8, x9, x10, x11, x12, rfl, e2, hA2, hvl, hvs⟩ ⟨rfl, rfl⟩
      -- the pool
      refine ⟨_, rfl, _, rfl, _, rfl, _, _, rfl, rfl, a, _, ns, rfl, by omega, e2.seq hs, fun p H3 e3 hp hp3 => ?_⟩
      -- the limit
      refine ⟨_, _, rfl, rfl, ⟨by decide, by decide, by decide⟩, _, _, rfl, rfl, (by show 4 ≤ sizeLine; decide), fun l hl => ?_⟩
      have e4 := e3.trans (same_new (o := .lst [.int 2, .int 3, .int 5, .int (10 ^ (12 : Int).toNat + 1)]) hl)
      refine ⟨_, rfl, p, 4, rfl, by decide, by decide, hp3.same (same_new hl), fun r H5 r0 r1 b5 hp5 => ?_⟩
      have e5 : Same H2 H5 := b5.same e4 hp
      have pl : l ≠ p := (hp3.ne hl).symm
      obtain ⟨lim, hlim, l0, l1⟩ : ∃ lim : Int, atI [V.int 2, .int 3, .int 5, .int (10 ^ (12 : Int).toNat + 1)] r = some (.int lim) ∧ 0 < lim ∧ lim ≤ 1000000000001 := by
        have : r = 0 ∨ r = 1 ∨ r = 2 ∨ r = 3 := by omega
        rcases this with z | z | z | z
        · exact ⟨2, by rw [z]; exact atI0, by decide, by decide⟩
        · exact ⟨3, by rw [z]; exact atI1, by decide, by decide⟩
        · exact ⟨5, by rw [z]; exact atI2, by decide, by decide⟩
        · exact ⟨10 ^ (12 : Int).toNat + 1, by rw [z]; exact atI_nat (j := 3) rfl, by decide, by decide⟩
      refine ⟨l, _, _, _, rfl, rfl, SqL.of (b5 _ _ upd_same pl), hlim, ?_⟩
      -- pushed
      refine ⟨_, rfl, p, 4, rfl, by decide, by decide, hp5, fun r2 H6 _ _ b6 hp6 => ⟨rfl, ?_⟩⟩
      have e6 : Same H2 H6 := b6.same e5 hp
      -- the pairs
      intro dp hdp
      have e7 := e6.trans (same_new (o := .dK []) hdp)
      have hp7 := hp6.same (same_new (o := .dK []) hdp)
      have pdp : dp ≠ p := (hp6.ne hdp).symm
      refine ⟨_, rfl, _, rfl, _, rfl, _, rfl, _, rfl, p, N, true, 4, rfl, hp7, n2, ne, by decide, by decide, fun L H8 hL b8 hp8 => ?_⟩
      have e8 : Same H2 H8 := b8.same e7 hp
      refine ⟨_, rfl, p, N, L, 4, rfl, hp8, n2, n48, ⟨hL.1, hL.2.1, hL.2.2.1, fun z => by cases z⟩, by decide, fun rows ls xs H9 hok b9 hp9 hls8 hls9 hda9 => ?_⟩
      have e9 : Same H2 H9 := b9.same e8 hp
      have hdp8 : H8 dp = some (.dK []) := b8 _ _ upd_same pdp
      have hdp9 : H9 dp = some (.dK []) := b9 _ _ hdp8 pdp
      refine ⟨hdp9, [(Sum.inr ("squeeze" : Str), .ref ls)], rfl, (by show 1 ≤ 15; decide), ?_⟩
      have lsdp : ls ≠ dp := ne_of hls9 hdp9 (by intro z; cases z)
      have hrows : ∀ {o}, RowsAt K (upd H9 dp o) ls rows := fun {o} => ⟨xs, by rw [upd_ne lsdp]; exact hls9, prs_tkeep (tkeep_upd hdp9 (fun xs z => by cases z) (fun a b z => by cases z)) hda9⟩
      have hdpN : H2 dp = none := e6.free hdp
      have e10 : ∀ {o}, Same H2 (upd H9 dp o) := fun {o} => same_updO e9 hdpN
      have lsN : H2 ls = none := e8.free hls8
      have hp10 : ∀ {o}, PoolAt (upd H9 dp o) p := fun {o} => by
        obtain ⟨ys, g1, g2⟩ := hp9
        exact ⟨ys, by rw [upd_ne pdp.symm]; exact g1, g2⟩
      -- the rest, from what the dict of the pairs has become
      have rest : ∀ (lp : Option Addr) (H11 : Hp), Same H2 H11 → PoolAt H11 p → H11 dp = some (.dK (pairsKs ls lp)) → RowsAt K H11 ls rows → (∀ l, lp = some l → H2 l = none ∧ ∃ prow L2, RowsAt K H11 l prow ∧ RowsOk N L2 4 prow) →
          ∀ (hs2 : List Int) (D : Addr) (H12 : Hp), H11 D = none → But p H11 (dl H12 D) → PoolAt H12 p → H12 D = some (.lst (hs2.map V.int)) → (hs2.length : Int) = N / 2 → (∀ y ∈ hs2, 0 ≤ y ∧ y ≤ 1000000000000) →
          ∀ (kd : Addr) (wl : Addr) (H13 : Hp), H12 kd = none → (upd H12 kd (.dK [])) wl = none → H13 = upd (upd (upd H12 kd (.dK [])) wl (.lst ((hs2 ++ hs2).map V.int))) kd (.dK (kindKs dp wl)) →
          H13 A = some (.lst vs) ∧ Same H (upd H13 A (.lst (vs ++ [.ref kd]))) ∧ ∀ v ∈ vs ++ [V.ref kd], ∃ k, v = .ref k ∧ KindAt K (dl (upd H13 A (.lst (vs ++ [.ref kd]))) A) k N := by
        intro lp H11 e11 hp11 hdp11 hr11 hlp hs2 D H12 hD b12 hp12 hD12 hl12 hb12 kd wl H13 hkd hwl eH13
        have hDN : H2 D = none := e11.free hD
        have k12 : ∀ x o, H11 x = some o → x ≠ p → H12 x = some o := fun x o e hx => (dl_some (b12 x o e hx)).1
        have e12 : Same H2 H12 := fun x o e => k12 x o (e11 x o e) (ne_of_none e hp)
        have hkdN := e12.free hkd
        have hwkd : wl ≠ kd := fun z => by rw [z, upd_same] at hwl; cases hwl
        have hwl12 : H12 wl = none := by rw [upd_ne hwkd] at hwl; exact hwl
        have hwlN := e12.free hwl12
        have k13 : Same H12 H13 := fun x o e => by
          rw [eH13, upd_ne (ne_of_none e hkd), upd_ne (ne_of_none e hwl12), upd_ne (ne_of_none e hkd)]
          exact e
        have e13 : Same H2 H13 := e12.trans k13
        have hA13 := e13 _ _ hA2
        refine ⟨hA13, fun x o e => ?_, fun v hv => ?_⟩
        · rw [upd_ne (ne_of_none e hA)]
          exact e13 _ _ (e2 _ _ e)
        · have edl : dl (upd H13 A (.lst (vs ++ [.ref kd]))) A = dl H13 A := by
            funext x
            unfold dl
            by_cases hx : x = A
            · rw [if_pos hx, if_pos hx]
            · rw [if_neg hx, if_neg hx, upd_ne hx]
          rw [edl]
          rcases List.mem_append.mp hv with z | z
          · obtain ⟨k, hk, kk⟩ := hvs v z
            refine ⟨k, hk, kk.same fun x o e => ?_⟩
            obtain ⟨g1, g2⟩ := dl_some e
            rw [dl_ne g2]
            exact e13 _ _ g1
          · refine ⟨kd, List.mem_singleton.mp z, ?_⟩
            have nA : ∀ {x}, H2 x = none → x ≠ A := fun {x} hx => (ne_of_none hA2 hx).symm
            have pdp2 : dp ≠ p := pdp
            have hls_p : ∀ {x}, H2 x = none → H11 x ≠ none → x = p ∨ x ≠ p := fun {x} _ _ => Classical.em _
            have kT : TKeep K H11 (dl H13 A) := fun bq ys hsq => by
              obtain ⟨pp, g1, _⟩ := hp11
              have t12 : SqT K H12 bq ys := by
                rcases hsq with (h | ⟨o, h⟩) | h
                · exact .inl (.inl (k12 _ _ h fun z => by rw [z, g1] at h; cases h))
                · exact .inl (.inr ⟨o, k12 _ _ h fun z => by rw [z, g1] at h; cases h⟩)
                · exact .inr h
              exact dl_tkeep hA13 _ _ (same_sqT k13 t12)
            have kl : ∀ {x o}, H11 x = some o → x ≠ p → H2 x = none → (dl H13 A) x = some o := fun {x o} h hx hn => by
              rw [dl_ne (nA hn)]
              exact k13 _ _ (k12 _ _ h hx)
            have ls_ne : ls ≠ p := fun z => by
              obtain ⟨pp, g1, _⟩ := hp8
              rw [← z, hls8] at g1
              cases g1
            refine ⟨dp, wl, ls, lp, rows, L, hs2 ++ hs2, ?_, kl hdp11 pdp hdpN, hr11.keep kT (fun o h => kl h ls_ne lsN), hok, hL, ?_, goodGap_half n2 n48 ne hl12 hb12, fun lq hlq => ?_⟩
            · rw [dl_ne (nA hkdN), eH13, upd_same]
            · rw [dl_ne (nA hwlN), eH13, upd_ne hwkd, upd_same]
            · obtain ⟨hn, prow, L2, g1, g2⟩ := hlp lq hlq
              have lq_ne : lq ≠ p := fun z => by
                obtain ⟨ys, g3, _⟩ := g1
                obtain ⟨pp, g4, a1, a2, a3, rfl⟩ := hp11
                obtain ⟨g5, g6⟩ := g2
                have hda := (show DpAll K H11 ys (prow.map prD) from by assumption)
                rw [z, g4] at g3
                cases g3
                cases prow with
                | nil => have := g5.lo; simp at this
                | cons r rs => cases hda with | cons h _ => cases h
              exact ⟨prow, L2, g1.keep kT (fun o h => kl h lq_ne hn), g2⟩
      refine ⟨_, rfl, _, rfl, ite2 (fun hpu => ?ga) (fun hpu => ?gb)⟩
      case' gb =>
        obtain ⟨H11, hH⟩ : ∃ H11, upd H9 dp (.dK (mergeK [] [(Sum.inr ("squeeze" : Str), .ref ls)])) = H11 := ⟨_, rfl⟩
        rw [hH]
        have lq : ∃ lp : Option Addr, Same H2 H11 ∧ PoolAt H11 p ∧ H11 dp = some (.dK (pairsKs ls lp)) ∧ RowsAt K H11 ls rows ∧ (∀ l, lp = some l → H2 l = none ∧ ∃ prow L2, RowsAt K H11 l prow ∧ RowsOk N L2 4 prow) :=
          ⟨none, by rw [← hH]; exact e10, by rw [← hH]; exact hp10, by rw [← hH, upd_same]; rfl, by rw [← hH]; exact hrows, fun l z => by cases z⟩
      case' ga =>
        refine ⟨_, rfl, _, rfl, _, rfl, _, rfl, _, rfl, p, N, false, 4, rfl, hp10, n2, ne, by decide, by decide, fun L2 H12 hL2 b12 hp12 => ?_⟩
        have e12 : Same H2 H12 := b12.same e10 hp
        refine ⟨_, rfl, p, N, L2, 4, rfl, hp12, n2, n48, hL2, by decide, fun prow lp ys H13 okp b13 hp13 hlp12 hlp13 hda13 => ?_⟩
        have e13 : Same H2 H13 := b13.same e12 hp
        have hdp13 : H13 dp = some (.dK (pairsKs ls none)) := b13 _ _ (b12 _ _ upd_same pdp) pdp
        refine ⟨_, rfl, dp, _, rfl, DPut.k (k := Sum.inr ("push" : Str)) hdp13 (by show 1 < sizeLine; decide), ?_⟩
        have lpdp : lp ≠ dp := ne_of hlp13 hdp13 (by intro z; cases z)
        obtain ⟨H11, hH⟩ : ∃ H11, upd H13 dp (.dK (putK (pairsKs ls none) (Sum.inr ("push" : Str)) (.ref lp))) = H11 := ⟨_, rfl⟩
        rw [hH]
        have kd13 : ∀ {o}, TKeep K H13 (upd H13 dp o) := fun {o} => tkeep_upd hdp13 (fun xs z => by cases z) (fun a b z => by cases z)
        have kP : TKeep K (upd H9 dp (.dK (mergeK [] [(Sum.inr ("squeeze" : Str), .ref ls)]))) H12 := by
          obtain ⟨pp, g1, _⟩ := hp10 (o := .dK (mergeK [] [(Sum.inr ("squeeze" : Str), .ref ls)]))
          exact b12.tkeep g1
        have kQ : TKeep K H12 H13 := by
          obtain ⟨pp, g1, _⟩ := hp12
          exact b13.tkeep g1
        have ls_ne : ls ≠ p := fun z => by
          obtain ⟨pp, g1, _⟩ := hp8
          rw [← z, hls8] at g1
          cases g1
        have lq : ∃ lp : Option Addr, Same H2 H11 ∧ PoolAt H11 p ∧ H11 dp = some (.dK (pairsKs ls lp)) ∧ RowsAt K H11 ls rows ∧ (∀ l, lp = some l → H2 l = none ∧ ∃ prow L2, RowsAt K H11 l prow ∧ RowsOk N L2 4 prow) := by
          refine ⟨some lp, by rw [← hH]; exact same_updO e13 hdpN, ?_, by rw [← hH, upd_same]; kernel_rfl, ?_, fun l z => ?_⟩
          · obtain ⟨pp, g1, g2⟩ := hp13
            exact ⟨pp, by rw [← hH, upd_ne pdp.symm]; exact g1, g2⟩
          · rw [← hH]
            refine (hrows (o := .dK (mergeK [] [(Sum.inr ("squeeze" : Str), .ref ls)]))).keep (fun b ys h => kd13 _ _ (kQ _ _ (kP _ _ h))) fun o h => ?_
            rw [upd_ne lsdp]
            exact b13 _ _ (b12 _ _ h ls_ne) ls_ne
          · cases z
            refine ⟨e12.free hlp12, prow, L2, ⟨ys, by rw [← hH, upd_ne lpdp]; exact hlp13, by rw [← hH]; exact prs_tkeep kd13 hda13⟩, okp⟩
      all_goals
        obtain ⟨lp, e11, hp11, hdp11, hr11, hlp⟩ := lq
        -- the half of the widths
        refine ⟨_, rfl, _, _, rfl, rfl, ⟨by decide, by decide⟩, N / 2, rfl, by omega, by omega, fun D hD => lc_it (walk_range (lo := 0)) (fun j H12 => ∃ hs2 : List Int, H12 D = some (.lst (hs2.map V.int)) ∧ hs2.length = j ∧ (∀ y ∈ hs2, 0 ≤ y ∧ y ≤ 1000000000000) ∧ (∀ x o, H11 x = some o → x ≠ p → H12 x = some o) ∧ PoolAt H12 p)
          ⟨[], upd_same, rfl, (fun y hy => by cases hy), (fun x o e _ => by rw [upd_ne (ne_of_none e hD)]; exact e), hp11.same (same_new hD)⟩ (fun _ _ _ _ => True.intro) ?_ ?_⟩
        · rintro j y H12' H12 hj ⟨hs2, hD12, hl12, hb12, hk12, hp12⟩ ⟨rfl, rfl⟩
          have pD : D ≠ p := (hp11.ne hD).symm
          refine ⟨rfl, _, rfl, _, rfl, p, lim, rfl, l0, by omega, hp12, fun r3 H13 q0 q1 b13 hp13 => ?_⟩
          refine ⟨_, b13 _ _ hD12 pD, by rw [List.length_map]; exact small1000 (by omega), hs2 ++ [r3], by rw [List.map_append]; exact upd_same, by rw [List.length_append, hl12]; rfl, ?_, ?_, hp13.but but_upd pD.symm⟩
          · intro y hy
            rcases List.mem_append.mp hy with z | z
            · exact hb12 y z
            · rw [List.mem_singleton.mp z]
              omega
          · intro x o e hx
            rw [upd_ne (ne_of_none e hD)]
            exact b13 _ _ (hk12 x o e hx) hx
        · rintro H12 ⟨hs2, hD12, hl12, hb12, hk12, hp12⟩
          have hAp : A ≠ p := ne_of_none hA2 hp
          have hA12 : H12 A = some (.lst vs) := hk12 _ _ (e11 _ _ hA2) hAp
          refine ⟨_, rfl, .inl ⟨rfl, _, SqL.of hA12⟩, fun kd hkd => ?_⟩
          have DK : D ≠ kd := ne_of_none hD12 hkd
          refine ⟨_, rfl, _, rfl, _, rfl, D, D, _, _, rfl, rfl, (by rw [upd_ne DK]; exact hD12), (by rw [upd_ne DK]; exact hD12), (by rw [List.length_map, hl12]; exact Nat.le_of_lt (small1000 (by omega))), fun wl hwl => ?_⟩
          have wk : kd ≠ wl := fun z => by rw [← z, upd_same] at hwl; cases hwl
          refine ⟨by rw [upd_ne wk]; exact upd_same, [(Sum.inr ("pairs" : Str), .ref dp), (Sum.inr ("widths" : Str), .ref wl)], rfl, (by show 2 ≤ 15; decide), ?_⟩
          obtain ⟨f1, f2, f3⟩ := rest lp H11 e11 hp11 hdp11 hr11 hlp hs2 D H12 hD (fun x o e hx => by rw [dl_ne (ne_of_none e hD)]; exact hk12 x o e hx) hp12 hD12 (by rw [hl12]; omega) hb12 kd wl _ hkd hwl rfl
          refine ⟨A, vs, _, rfl, rfl, ?_, small1000 (by omega), vs ++ [.ref kd], _, _, _, _, _, _, _, rfl, ?_, ?_, by rw [List.length_append, hvl]; rfl, ?_⟩
          · rw [List.map_append] at f1
            exact f1
          · rw [List.map_append] at f2
            exact f2
          · exact upd_same
          · rw [List.map_append] at f3
            exact f3
    · rintro σ H2 ⟨vs, x6, x7, x8, x9, x10, x11, x12, rfl, e2, hA2, hvl, hvs⟩
      refine ⟨_, rfl, q A vs H2 e2 hA2 (by rw [hvl]; omega) fun v hv => ?_⟩
      obtain ⟨k, hk, kk⟩ := hvs v hv
      exact ⟨k, hk, kk.same dl_sub⟩
end
end L2.Jw
set_option Elab.async false
set_option linter.all false
set_option maxRecDepth 100000
set_option maxHeartbeats 4000000
namespace L2.Jw
open PySem PySem.Spec PyProof.Rows
def ruleD (r : Rl) : PyData := .tuple [.str "squeeze", .int r.1, .str r.2]
def tkD (t : Int) : PyData := .tuple [.str "squeeze", .int t]
theorem hu65 {A : Around} {k : Nat} (hr : Room k A) : A.units + 65 < cLine := by
  have := hr.un
  omega
theorem tkD_lay (t : Int) : (tkD t).canLay0 = true := by
  simp [tkD, PyData.canLay0, PyData.canLayAll0]
  kernel_rfl
theorem tkDs_lay : ∀ ts : List Int, PyData.canLayAll0 (ts.map tkD) = true
  | [] => by simp [PyData.canLayAll0]
  | t :: ts => by simp [PyData.canLayAll0, tkD_lay t, tkDs_lay ts]
theorem tkD_depth (t : Int) : (tkD t).depth = 1 := by simp [tkD, PyData.depth, PyData.depthAll]
theorem tkDs_depth : ∀ ts : List Int, PyData.depthAll (ts.map tkD) ≤ 1
  | [] => by simp [PyData.depthAll]
  | t :: ts => by
    have h1 := tkDs_depth ts
    have h2 := tkD_depth t
    simp only [List.map_cons, PyData.depthAll]
    omega
theorem tkD_shaped (t : Int) : SeqAt.shaped (tkD t) = true := by
  have h := tkD_depth t
  show ((tkD t).canLay0 && decide ((tkD t).depth ≤ 64)) = true
  rw [Bool.and_eq_true]
  exact ⟨tkD_lay t, decide_eq_true (by omega)⟩
theorem tkL_shaped (ts : List Int) : SeqAt.shaped (.list (ts.map tkD)) = true := by
  have h1 := tkDs_depth ts
  have h2 : PyData.depth (.list (ts.map tkD)) ≤ 64 := by
    simp only [PyData.depth]
    omega
  show (PyData.canLay0 (.list (ts.map tkD)) && decide (PyData.depth (.list (ts.map tkD)) ≤ 64)) = true
  rw [Bool.and_eq_true]
  exact ⟨by simp only [PyData.canLay0]; exact tkDs_lay ts, decide_eq_true h2⟩
theorem tkD_eqv (t u : Int) : PyData.eqv (tkD t) (tkD u) = decide (t = u) := by
  have e : PyData.eqv (tkD t) (tkD u) = ((("squeeze" : Str) == ("squeeze" : Str)) && ((t == u) && true)) := by simp only [tkD, PyData.eqv, PyData.eqvAll]
  rw [e]
  by_cases h : t = u
  · rw [h]
    simp
  · have q : (t == u) = false := beq_eq_false_iff_ne.mpr h
    rw [q, decide_eq_false h]
    simp
theorem tk_any (t : Int) (ts : List Int) : ((ts.map tkD).any fun z => PyData.eqv z (tkD t)) = decide (t ∈ ts) := by
  rw [Bool.eq_iff_iff, List.any_eq_true, decide_eq_true_eq]
  constructor
  · rintro ⟨y, hy, h⟩
    obtain ⟨z, hz, rfl⟩ := List.mem_map.mp hy
    rw [tkD_eqv, decide_eq_true_eq] at h
    rw [← h]
    exact hz
  · intro h
    exact ⟨tkD t, List.mem_map.mpr ⟨t, h, rfl⟩, by rw [tkD_eqv]; simp⟩
theorem dp_rule {K : PySem.W.Frag} {H : Hp} {v : V} {r : Rl} (h : Dp K H v (ruleD r)) : ∃ q, v = .ref q ∧ SqT K H q [.str "squeeze", .int r.1, .str r.2] := by
  cases h with
  | tup hs ha =>
    cases ha with
    | cons h1 ha =>
      cases h1
      cases ha with
      | cons h2 ha =>
        cases h2
        cases ha with
        | cons h3 ha =>
          cases h3
          cases ha
          exact ⟨_, rfl, hs⟩
theorem rule_dp {K : PySem.W.Frag} {H : Hp} {q : Addr} {t : Int} {g : Str} (h : SqT K H q [.str "squeeze", .int t, .str g]) : Dp K H (.ref q) (ruleD (t, g)) := .tup h (.cons (.str _) (.cons (.int _) (.cons (.str _) .nil)))
theorem rules_tkeep {K : PySem.W.Frag} {H H' : Hp} (k : TKeep K H H') : ∀ {rs : List Rl} {vs : List V}, DpAll K H vs (rs.map ruleD) → DpAll K H' vs (rs.map ruleD)
  | [], _, h => by cases h; exact .nil
  | r :: rs, _, h => by
    cases h with
    | cons h1 h2 =>
      obtain ⟨q, rfl, hq⟩ := dp_rule h1
      exact .cons (rule_dp (k _ _ hq)) (rules_tkeep k h2)
theorem tks_tkeep {K : PySem.W.Frag} {H H' : Hp} (k : TKeep K H H') : ∀ {ts : List Int} {vs : List V}, DpAll K H vs (ts.map tkD) → DpAll K H' vs (ts.map tkD)
  | [], _, h => by cases h; exact .nil
  | t :: ts, _, h => by
    cases h with
    | cons h1 h2 =>
      cases h1 with
      | tup hs ha => exact .cons (.tup (k _ _ hs) (by cases ha with | cons a ha => cases a; cases ha with | cons a ha => cases a; cases ha; exact .cons (.str _) (.cons (.int _) .nil))) (tks_tkeep k h2)
/-- a list of rules -/
def RuleLs (K : PySem.W.Frag) (H : Hp) (l : Addr) (rs : List Rl) : Prop := ∃ xs, H l = some (.lst xs) ∧ DpAll K H xs (rs.map ruleD)
theorem RuleLs.keep {K : PySem.W.Frag} {H H' : Hp} {l : Addr} {rs : List Rl} (h : RuleLs K H l rs) (k : TKeep K H H') (e : ∀ o, H l = some o → H' l = some o) : RuleLs K H' l rs := by
  obtain ⟨xs, h1, h2⟩ := h
  exact ⟨xs, e _ h1, rules_tkeep k h2⟩
theorem RuleLs.same {K : PySem.W.Frag} {H H' : Hp} {l : Addr} {rs : List Rl} (h : RuleLs K H l rs) (e : Same H H') : RuleLs K H' l rs := h.keep (tkeep_same e) fun _ z => e _ _ z
def RulesX (K : PySem.W.Frag) (H : Hp) (kvs : List (Key × V)) (tb : Tb) : Prop := Paired (fun (q : Str × List Rl) (kv : Key × V) => kv.1 = Sum.inr q.1 ∧ ∃ l, kv.2 = .ref l ∧ RuleLs K H l q.2) tb kvs
theorem RulesX.same {K : PySem.W.Frag} {H H' : Hp} {kvs : List (Key × V)} {tb : Tb} (h : RulesX K H kvs tb) (e : Same H H') : RulesX K H' kvs tb := Paired.mapP h fun _ _ ⟨a, l, b, c⟩ => ⟨a, l, b, c.same e⟩
def sOf (st : Int) : List Str := if st = 1 then ["start"] else ["start", "b"]
structure RowOk (S : List Str) (N : Int) (mx : Nat) (rs : List Rl) : Prop where
  len : rs.length ≤ mx
  goal : ∀ r ∈ rs, r.2 ∈ S
  nd : (rs.map fun r => r.1 % N).Nodup
structure TbOk (S : List Str) (N : Int) (mx : Nat) (tb : Tb) : Prop where
  keys : tb.map Prod.fst = S
  rows : ∀ q ∈ tb, RowOk S N mx q.2
theorem rx_keys {K : PySem.W.Frag} {H : Hp} {kvs : List (Key × V)} {tb : Tb} (h : RulesX K H kvs tb) : kvs.map Prod.fst = tb.map fun q => Sum.inr q.1 := by
  induction h with
  | nil => rfl
  | cons a t ih => rw [List.map_cons, List.map_cons, a.1, ih]
theorem rx_get {K : PySem.W.Frag} {H : Hp} {kvs : List (Key × V)} {tb : Tb} (h : RulesX K H kvs tb) {s : Str} (hs : s ∈ tb.map Prod.fst) : ∃ l rs, valV kvs (Sum.inr s : Key) = some (.ref l) ∧ (s, rs) ∈ tb ∧ tb.lookup s = some rs ∧ RuleLs K H l rs := by
  induction h with
  | nil => cases hs
  | @cons q kv tb kvs a t ih =>
    obtain ⟨a1, l, a2, a3⟩ := a
    by_cases e : q.1 = s
    · refine ⟨l, q.2, ?_, ?_, ?_, a3⟩
      · rw [valV_pos (by rw [a1, e]), a2]
      · rw [← e]; exact List.mem_cons_self ..
      · obtain ⟨q1, q2⟩ := q
        have e' : q1 = s := e
        subst e'
        simp [List.lookup]
    · rw [List.map_cons] at hs
      rcases List.mem_cons.mp hs with z | z
      · exact absurd z.symm e
      · obtain ⟨l', rs, b1, b2, b3, b4⟩ := ih z
        refine ⟨l', rs, ?_, List.mem_cons_of_mem _ b2, ?_, b4⟩
        · rw [valV_neg (by rw [a1]; intro y; exact e (Sum.inr.inj y))]
          exact b1
        · obtain ⟨q1, q2⟩ := q
          have e' : (s == q1) = false := by
            have : ¬ s = q1 := fun z => e z.symm
            simpa using this
          rw [List.lookup_cons, e']
          exact b3
theorem rx_none {K : PySem.W.Frag} {H : Hp} {kvs : List (Key × V)} {tb : Tb} (h : RulesX K H kvs tb) {s : Str} (hs : s ∉ tb.map Prod.fst) : valV kvs (Sum.inr s : Key) = none := by
  induction h with
  | nil => rfl
  | @cons q kv tb kvs a t ih =>
    rw [List.map_cons] at hs
    rw [valV_neg (by rw [a.1]; intro y; exact hs (by rw [← Sum.inr.inj y]; exact List.mem_cons_self ..))]
    exact ih fun z => hs (List.mem_cons_of_mem _ z)
section
variable {P : Program} {w : World} {K : PySem.W.Frag} {mg : Str → Option Value} {base : Heap} {c : Cs}
def spRulesL (K : PySem.W.Frag) : Sp := fun vs H Q _ => ∃ (p : Addr) (N : Int) (wa : Addr) (st : Int), vs = [.ref p, .int N, .ref wa, .int st, .int 3] ∧ PoolAt H p ∧ H wa = some (.lst [.str "squeeze"]) ∧ wa ≠ p ∧ 2 ≤ N ∧ N ≤ 48 ∧ (st = 1 ∨ st = 2) ∧
  ∀ d H' kvs tb, But p H H' → H d = none → H' d = some (.dK kvs) → TbOk (sOf st) N 3 tb → RulesX K H' kvs tb → Q (.ref d) H'
abbrev s__law_rules : Stmt := top 69
theorem c__law_rules : FnScope ["_law_pool_here", "_law_around", "_law_words", "_law_states", "_law_most", "_law_names", "_law_rules_here", "_law_name", "_law_row", "_law_taken", "_law_k", "_law_word", "_law_turn", "_law_goal"] ["_law_pool_here", "_law_around", "_law_words", "_law_states", "_law_most"] (defScope s__law_rules) := ⟨rfl, rfl, rfl, by decide +kernel, rfl, by decide +kernel, by decide +kernel⟩
theorem b__law_rules : Bnd0 "_law_rules" "_law_rules" s__law_rules ["_law_pool_here", "_law_around", "_law_words", "_law_states", "_law_most"] := fun _ _ _ _ _ _ us hl => match us, hl with | [_, _, _, _, _], _ => rfl
theorem d__law_rules (T : Tx K mg c) : Df P w K mg base CX0 2 "_law_rules" (spRulesL K) := by
  refine df_0 T.D__law_rules c__law_rules b__law_rules (fun vs H Q E h => ?_) fun f cdv A outer s H vs Q E hr h => ?_
  · obtain ⟨p, N, wa, st, rfl, _⟩ := h
    rfl
  · obtain ⟨p, N, wa, st, rfl, hp, hwa, wap, n2, n48, hst, q⟩ := h
    refine ⟨_, (pss_cons (ps_set (i := 5) c__law_rules.nd rfl (Or.inl rfl) (pe_slice sl_list (pe_lst (pa_cons pe_str (pa_cons pe_str (pa_cons pe_str (pa_cons pe_str (pa_cons pe_str pa_nil)))))) po_none (po_some (pv 3))))
      (pss_cons (ps_set (i := 6) c__law_rules.nd rfl (Or.inl rfl) pe_dnewK)
      (pss_cons (ps_for PassesOwn.never rfl (pi_list (pv 5)) (pg_name (i := 7) c__law_rules.nd rfl (Or.inl rfl))
      (pss_cons (ps_set (i := 8) c__law_rules.nd rfl (Or.inl rfl) (pe_lst pa_nil))
      (pss_cons (ps_set (i := 9) c__law_rules.nd rfl (Or.inl rfl) (pe_lst pa_nil))
      (pss_cons (ps_for PassesOwn.never rfl (pi_range1 (by rfl) T.range (pa_cons (pe_D (d__law_draw T) (hr.mono (by first | decide | omega)) rfl pass0 (pa_cons (pv 0) (pa_cons (pe_op op_add (pv 4) pe_int) pa_nil))) pa_nil)) (pg_name (i := 10) c__law_rules.nd rfl (Or.inl rfl))
      (pss_cons (ps_set (i := 11) c__law_rules.nd rfl (Or.inl rfl) (pe_ix (r := rIxL K) ix_list (pv 2) (pe_D (d__law_draw T) (hr.mono (by first | decide | omega)) rfl pass0 (pa_cons (pv 0) (pa_cons (pe_callB call_len_seq (by rfl) T.len (by decide +kernel) (pa_cons (pv 2) pa_nil)) pa_nil))) (fun _ _ => rfl)))
      (pss_cons (ps_set (i := 12) c__law_rules.nd rfl (Or.inl rfl) (pe_D (d__law_draw T) (hr.mono (by first | decide | omega)) rfl pass0 (pa_cons (pv 0) (pa_cons (pv 1) pa_nil))))
      (pss_cons (ps_set (i := 13) c__law_rules.nd rfl (Or.inl rfl) (pe_ix (r := rIxL K) ix_list (pv 5) (pe_D (d__law_draw T) (hr.mono (by first | decide | omega)) rfl pass0 (pa_cons (pv 0) (pa_cons (pv 3) pa_nil))) (fun _ _ => rfl)))
      (pss_one (ps_if (pt_cmpR (op_notInD (hu65 hr)) (pe_tup (pa_cons (pv 11) (pa_cons (pv 12) pa_nil))) (pv 9) (by rfl)) (pss_cons (ps_expr (pe_bm PySem.F.plainAttrs_list PySem.F.slot_list_append PySem.F.type_list_append mt_append (pv 9) (pa_cons (pe_tup (pa_cons (pv 11) (pa_cons (pv 12) pa_nil))) pa_nil)))
      (pss_one (ps_expr (pe_bm PySem.F.plainAttrs_list PySem.F.slot_list_append PySem.F.type_list_append mt_append (pv 8) (pa_cons (pe_tup (pa_cons (pv 11) (pa_cons (pe_op op_add (pv 12) (pe_op op_mul (pv 1) (pe_op op_sub (pe_op op_mod (pv 10) pe_int) pe_int))) (pa_cons (pv 13) pa_nil)))) pa_nil))))) pss_nil))))))
      (pss_one (ps_dput (hu_of hr) (pv 6) (pv 7) (pv 8) rfl))))))
      (pss_one (ps_ret (pv 6)))))), ?_⟩
    have hcut : cutV [V.str "start", .str "b", .str "wobble", .str "z", .str "apex"] none (some st) = (sOf st).map V.str := by
      rcases hst with z | z
      · rw [z]; unfold sOf; rw [if_pos rfl]; kernel_rfl
      · rw [z]; unfold sOf; rw [if_neg (by decide)]; kernel_rfl
    have hSn : (sOf st).Nodup ∧ ((sOf st).length : Int) = st := by
      rcases hst with z | z
      · rw [z]; unfold sOf; rw [if_pos rfl]; exact ⟨by decide +kernel, rfl⟩
      · rw [z]; unfold sOf; rw [if_neg (by decide)]; exact ⟨by decide +kernel, rfl⟩
    generalize hS : sOf st = S at hcut hSn q
    refine ⟨(by show 5 ≤ sizeLine; decide), fun l0 hl0 => ?_⟩
    refine ⟨_, rfl, st, rfl, l0, _, rfl, SqL.of upd_same, fun nm hnm => ?_⟩
    rw [hcut]
    have e1 : Same H (upd (upd H l0 (.lst [.str "start", .str "b", .str "wobble", .str "z", .str "apex"])) nm (.lst (S.map V.str))) := (same_new hl0).trans (same_new hnm)
    intro d hd
    generalize hH1 : upd (upd H l0 (.lst [.str "start", .str "b", .str "wobble", .str "z", .str "apex"])) nm (.lst (S.map V.str)) = H1 at e1 hd ⊢
    have hnm1 : H1 nm = some (.lst (S.map V.str)) := by rw [← hH1]; exact upd_same
    have e2 : Same H (upd H1 d (.dK [])) := e1.trans (same_new hd)
    have hdN : H d = none := e1.free hd
    have nmd : nm ≠ d := ne_of_none hnm1 hd
    have nmp : nm ≠ p := fun z => by
      obtain ⟨xs, g1, _⟩ := hp
      have : nm ≠ p := (ne_of_none g1 ((same_new hl0).free hnm)).symm
      exact this z
    refine ⟨_, rfl, nm, rfl, ⟨_, SqL.of (by rw [upd_ne nmd]; exact hnm1)⟩, for_it walk_list (fun i σ H2 => ∃ (kvs : List (Key × V)) (tb : Tb) (x7 x8 x9 x10 x11 x12 x13 : Option V), σ = [some (.ref p), some (.int N), some (.ref wa), some (.int st), some (.int 3), some (.ref nm), some (.ref d), x7, x8, x9, x10, x11, x12, x13] ∧
        H2 d = some (.dK kvs) ∧ tb.map Prod.fst = S.take i ∧ (∀ q ∈ tb, RowOk S N 3 q.2) ∧ RulesX K (dl H2 p) kvs tb ∧ (∀ x o, H1 x = some o → x ≠ p → H2 x = some o) ∧ PoolAt H2 p)
      ⟨[], [], none, none, none, none, none, none, none, rfl, upd_same, rfl, (fun q hq => by cases hq), .nil, (fun x o e _ => by rw [upd_ne (ne_of_none e hd)]; exact e), (hp.same e1).same (same_new hd)⟩ (fun i σ H2 _ ⟨_, _, _, _, _, _, _, _, _, _, _, _, _, _, h, _⟩ => SqL.of (h _ _ hnm1 nmp)) ?_ ?_⟩
    · rintro i x σ H2' H2 hi ⟨kvs, tb, x7, x8, x9, x10, x11, x12, x13, rfl, hd2, hkeys, hrows, hrx, hk2, hp2⟩ ⟨rfl, hx⟩
      obtain ⟨nme, hnme, rfl⟩ : ∃ z, S[i]? = some z ∧ x = V.str z := by
        rw [List.getElem?_map] at hx
        cases e : S[i]? with
        | none => rw [e] at hx; cases hx
        | some z => rw [e] at hx; exact ⟨z, rfl, (Option.some.inj hx).symm⟩
      refine ⟨(by show 0 ≤ sizeLine; decide), fun R hR => ?_⟩
      refine ⟨(by show 0 ≤ sizeLine; decide), fun Tk hTk => ?_⟩
      have RTk : R ≠ Tk := ne_of_none upd_same hTk
      have hTk2 : H2 Tk = none := by rw [upd_ne RTk.symm] at hTk; exact hTk
      have pR : p ≠ R := hp2.ne hR
      have pTk : p ≠ Tk := hp2.ne hTk2
      have dR : d ≠ R := ne_of_none hd2 hR
      have dTk : d ≠ Tk := ne_of_none hd2 hTk2
      have hp3 : PoolAt (upd (upd H2 R (.lst [])) Tk (.lst [])) p := (hp2.same (same_new hR)).same (same_new hTk)
      refine ⟨_, rfl, _, rfl, _, _, rfl, rfl, p, 3 + 1, rfl, by decide, by decide, hp3, fun many H4 m0 m1 b4 hp4 => ⟨many, rfl, by omega, by omega, ?_⟩⟩
      have hwa2 : H2 wa = some (.lst [.str "squeeze"]) := hk2 _ _ (e1 _ _ hwa) wap
      refine for_it (walk_range (lo := 0)) (fun j σ H5 => ∃ (rs : List Rl) (xs ys : List V) (y10 y11 y12 y13 : Option V), σ = [some (.ref p), some (.int N), some (.ref wa), some (.int st), some (.int 3), some (.ref nm), some (.ref d), some (.str nme), some (.ref R), some (.ref Tk), y10, y11, y12, y13] ∧
          H5 R = some (.lst xs) ∧ H5 Tk = some (.lst ys) ∧ DpAll K H5 xs (rs.map ruleD) ∧ DpAll K H5 ys ((rs.map fun r => r.1 % N).map tkD) ∧ RowOk S N j rs ∧ (∀ x o, H2 x = some o → x ≠ p → H5 x = some o) ∧ PoolAt H5 p)
        ⟨[], [], [], x10, x11, x12, x13, rfl, b4 _ _ (by rw [upd_ne RTk]; exact upd_same) pR.symm, b4 _ _ upd_same pTk.symm, .nil, .nil, ⟨Nat.le_refl _, (fun r hr => by cases hr), List.nodup_nil⟩, (fun x o e hx => b4 _ _ (by rw [upd_ne (ne_of_none e hTk2), upd_ne (ne_of_none e hR)]; exact e) hx), hp4⟩ (fun _ _ _ _ _ => True.intro) ?_ ?_
      · rintro j y σ H5' H5 hj ⟨rs, xs, ys, y10, y11, y12, y13, rfl, hR5, hT5, hdr, hdt, hok, hk5, hp5⟩ ⟨rfl, rfl⟩
        have j3 : j ≤ 3 := by omega
        have hwa5 := hk5 _ _ hwa2 wap
        -- word
        refine ⟨_, rfl, _, rfl, _, rfl, wa, _, rfl, .inl (SqL.of hwa5), p, _, rfl, by decide, by decide, hp5, fun r6 H6 q0 q1 b6 hp6 => ?_⟩
        have q1' : r6 < 1 := q1
        have r60 : r6 = 0 := by omega
        have hwa6 := b6 _ _ hwa5 wap
        refine ⟨wa, _, _, .str "squeeze", rfl, rfl, SqL.of hwa6, (by rw [r60]; exact atI0), ?_⟩
        -- turn
        refine ⟨_, rfl, _, rfl, p, N, rfl, by omega, by omega, hp6, fun t H7 t0 t1 b7 hp7 => ?_⟩
        -- goal
        have kk7 : ∀ x o, H5 x = some o → x ≠ p → H7 x = some o := fun x o e hx => b7 _ _ (b6 _ _ e hx) hx
        refine ⟨_, rfl, _, rfl, _, rfl, p, st, rfl, by omega, by omega, hp7, fun g H8 g0 g1 b8 hp8 => ?_⟩
        have kk8 : ∀ x o, H5 x = some o → x ≠ p → H8 x = some o := fun x o e hx => b8 _ _ (kk7 x o e hx) hx
        have hnm8 : H8 nm = some (.lst (S.map V.str)) := kk8 _ _ (hk5 _ _ (hk2 _ _ hnm1 nmp) nmp) nmp
        have hgl : g.toNat < S.length := by omega
        have hgat : atI (S.map V.str) g = some (.str S[g.toNat]) := by
          have := atI_nat (xs := S.map V.str) (j := g.toNat) (v := V.str S[g.toNat]) (by rw [List.getElem?_map, List.getElem?_eq_getElem hgl]; rfl)
          rw [Int.toNat_of_nonneg g0] at this
          exact this
        refine ⟨nm, _, _, _, rfl, rfl, SqL.of hnm8, hgat, ?_⟩
        have kT : TKeep K H5 H8 := by
          obtain ⟨pp, w1, _⟩ := hp5
          exact (show But p H5 H8 from kk8).tkeep w1
        have hR8 := kk8 _ _ hR5 pR.symm
        have hT8 := kk8 _ _ hT5 pTk.symm
        have hdr8 := rules_tkeep kT hdr
        have hdt8 := tks_tkeep kT hdt
        -- is it taken
        refine ⟨_, rfl, _, rfl, (by show 2 ≤ sizeLine; decide), fun u hu => ?_⟩
        have e9 := same_new (o := .tup [.str "squeeze", .int t]) hu
        refine ⟨_, rfl, tkD t, _, .tup (SqT.of upd_same) (.cons (.str _) (.cons (.int _) .nil)), .lst (SqL.of (e9 _ _ hT8)) (dpAll_same e9 _ _ hdt8), tkD_shaped t, tkL_shaped _, _, rfl, ?_⟩
        rw [tk_any]
        have hp9 := hp8.same e9
        by_cases hm : t ∈ rs.map fun r => r.1 % N
        · refine inD hm ?_
          exact ⟨rs, xs, ys, _, _, _, _, rfl, e9 _ _ hR8, e9 _ _ hT8, dpAll_same e9 _ _ hdr8, dpAll_same e9 _ _ hdt8, ⟨Nat.le_succ_of_le hok.len, hok.goal, hok.nd⟩, fun x o e hx => e9 _ _ (kk8 _ _ (hk5 x o e hx) hx), hp9⟩
        · refine inN hm ?_
          refine ⟨_, rfl, .inl ⟨rfl, _, SqL.of (e9 _ _ hT8)⟩, _, rfl, _, rfl, (by show 2 ≤ sizeLine; decide), fun u2 hu2 => ?_⟩
          have e10 := same_new (o := .tup [.str "squeeze", .int t]) hu2
          have hT10 := e10 _ _ (e9 _ _ hT8)
          refine ⟨Tk, ys, _, rfl, rfl, hT10, small1000 (by have := dpAll_len hdt; rw [List.length_map, List.length_map] at this; have := hok.len; omega), ?_⟩
          have k11 : TKeep K (upd (upd H8 u (.tup [.str "squeeze", .int t])) u2 (.tup [.str "squeeze", .int t])) (upd (upd (upd H8 u (.tup [.str "squeeze", .int t])) u2 (.tup [.str "squeeze", .int t])) Tk (.lst (ys ++ [.ref u2]))) := lst_tkeep hT10
          refine ⟨_, rfl, .inl ⟨rfl, _, SqL.of (by rw [upd_ne RTk]; exact e10 _ _ (e9 _ _ hR8))⟩, ?_⟩
          refine ⟨_, rfl, _, rfl, _, rfl, _, rfl, _, _, rfl, rfl, (show (0 : Int) < 3 by decide), _, _, rfl, rfl, _, _, rfl, rfl, .inl ⟨by omega, by omega⟩, _, _, rfl, rfl, _, rfl, (by show 3 ≤ sizeLine; decide), fun u3 hu3 => ?_⟩
          have e12 := same_new (o := .tup [.str "squeeze", .int (t + N * ((0 + (j : Int)) % 3 - 1)), .str S[g.toNat]]) hu3
          have hR12 : upd (upd (upd (upd H8 u (.tup [.str "squeeze", .int t])) u2 (.tup [.str "squeeze", .int t])) Tk (.lst (ys ++ [.ref u2]))) u3 (.tup [.str "squeeze", .int (t + N * ((0 + (j : Int)) % 3 - 1)), .str S[g.toNat]]) R = some (.lst xs) := e12 _ _ (by rw [upd_ne RTk]; exact e10 _ _ (e9 _ _ hR8))
          have k13 : TKeep K _ (upd (upd (upd (upd (upd H8 u (.tup [.str "squeeze", .int t])) u2 (.tup [.str "squeeze", .int t])) Tk (.lst (ys ++ [.ref u2]))) u3 (.tup [.str "squeeze", .int (t + N * ((0 + (j : Int)) % 3 - 1)), .str S[g.toNat]])) R (.lst (xs ++ [.ref u3]))) := lst_tkeep hR12
          have hmod : (t + N * ((0 + (j : Int)) % 3 - 1)) % N = t := by rw [Int.add_mul_emod_self_left]; exact Int.emod_eq_of_lt t0 t1
          refine ⟨R, xs, _, rfl, rfl, hR12, small1000 (by have := dpAll_len hdr; rw [List.length_map] at this; have := hok.len; omega), rs ++ [(t + N * ((0 + (j : Int)) % 3 - 1), S[g.toNat])], xs ++ [.ref u3], ys ++ [.ref u2], _, _, _, _, rfl, upd_same, ?_, ?_, ?_, ⟨?_, ?_, ?_⟩, ?_, ?_⟩
          · rw [upd_ne RTk.symm]
            exact e12 _ _ upd_same
          · rw [List.map_append]
            exact dpAll_app (rules_tkeep k13 (dpAll_same e12 _ _ (rules_tkeep k11 (dpAll_same e10 _ _ (dpAll_same e9 _ _ hdr8))))) (dpAll_one (rule_dp (k13 _ _ (SqT.of upd_same))))
          · rw [List.map_append, List.map_append]
            refine dpAll_app (tks_tkeep k13 (dpAll_same e12 _ _ (tks_tkeep k11 (dpAll_same e10 _ _ (dpAll_same e9 _ _ hdt8))))) (dpAll_one ?_)
            show Dp K _ _ (tkD ((t + N * ((0 + (j : Int)) % 3 - 1)) % N))
            rw [hmod]
            exact .tup (k13 _ _ (same_sqT e12 (k11 _ _ (SqT.of upd_same)))) (.cons (.str _) (.cons (.int _) .nil))
          · rw [List.length_append]
            exact Nat.succ_le_succ hok.len
          · intro r hr
            rcases List.mem_append.mp hr with z | z
            · exact hok.goal r z
            · rw [List.mem_singleton.mp z]
              exact List.getElem_mem hgl
          · rw [List.map_append, List.nodup_append]
            refine ⟨hok.nd, List.nodup_cons.mpr ⟨List.not_mem_nil, List.nodup_nil⟩, fun a ha b hb e => ?_⟩
            have hb' : b = (t + N * ((0 + (j : Int)) % 3 - 1)) % N := List.mem_singleton.mp hb
            rw [hmod] at hb'
            rw [e, hb'] at ha
            exact hm ha
          · intro x o e hx
            have xR : x ≠ R := ne_of_none e hR
            have xT : x ≠ Tk := ne_of_none e hTk2
            rw [upd_ne xR]
            exact e12 _ _ (by rw [upd_ne xT]; exact e10 _ _ (e9 _ _ (kk8 _ _ (hk5 x o e hx) hx)))
          · obtain ⟨pp, w1, w2⟩ := hp9
            exact ⟨pp, by rw [upd_ne pR]; exact e12 _ _ (by rw [upd_ne pTk]; exact e10 _ _ w1), w2⟩
      · rintro σ H5 ⟨rs, xs, ys, y10, y11, y12, y13, rfl, hR5, hT5, hdr, hdt, hok, hk5, hp5⟩
        have dp : d ≠ p := fun z => by
          obtain ⟨pp, w1, _⟩ := hp2
          rw [z, w1] at hd2
          cases hd2
        have hd5 := hk5 _ _ hd2 dp
        have hnew : nme ∉ tb.map Prod.fst := by
          rw [hkeys]
          intro hm
          obtain ⟨k, hk, e⟩ := List.getElem_of_mem hm
          rw [List.length_take] at hk
          rw [List.getElem_take] at e
          obtain ⟨hi', e'⟩ := List.getElem?_eq_some_iff.mp hnme
          exact absurd (e.trans e'.symm) (List.pairwise_iff_getElem.mp (List.nodup_iff_pairwise_ne.mp hSn.1) k i (by omega) hi' (by omega))
        have hlenk : kvs.length ≤ 5 := by
          have h1 := congrArg List.length (rx_keys hrx)
          rw [List.length_map, List.length_map] at h1
          have h2 := congrArg List.length hkeys
          rw [List.length_map, List.length_take] at h2
          omega
        refine ⟨_, rfl, _, rfl, _, rfl, d, _, rfl, DPut.k (k := Sum.inr nme) hd5 (small1000 (by omega)), ?_⟩
        rw [putK_new _ (rx_none hrx hnew)]
        refine ⟨kvs ++ [(Sum.inr nme, .ref R)], tb ++ [(nme, rs)], _, _, _, _, _, _, _, rfl, upd_same, ?_, ?_, ?_, ?_, ?_⟩
        · rw [List.map_append, hkeys, List.take_succ, hnme]
          rfl
        · intro q hq
          rcases List.mem_append.mp hq with z | z
          · exact hrows q z
          · rw [List.mem_singleton.mp z]
            exact ⟨Nat.le_trans hok.len (by omega), hok.goal, hok.nd⟩
        · have kd : TKeep K H5 (upd H5 d (.dK (kvs ++ [(Sum.inr nme, .ref R)]))) := tkeep_upd hd5 (fun _ z => by cases z) (fun _ _ z => by cases z)
          obtain ⟨pp, w1, _⟩ := hp5
          have kdl : TKeep K (upd H5 d (.dK (kvs ++ [(Sum.inr nme, .ref R)]))) (dl (upd H5 d (.dK (kvs ++ [(Sum.inr nme, .ref R)]))) p) := dl_tkeep (xs := pp) (by rw [upd_ne dp.symm]; exact w1)
          obtain ⟨pp2, w2, _⟩ := hp2
          have k25 : TKeep K (dl H2 p) H5 := fun b ys hs => (show But p H2 H5 from hk5).tkeep w2 _ _ (by
            rcases hs with (h | ⟨o, h⟩) | h
            · exact .inl (.inl (dl_some h).1)
            · exact .inl (.inr ⟨o, (dl_some h).1⟩)
            · exact .inr h)
          refine paired_snoc (Paired.mapP hrx fun q kv ⟨a1, l, a2, a3⟩ => ⟨a1, l, a2, a3.keep (fun b ys h => kdl _ _ (kd _ _ (k25 _ _ h))) fun o h => ?_⟩) ⟨rfl, R, rfl, xs, ?_, rules_tkeep (fun b ys h => kdl _ _ (kd _ _ h)) hdr⟩
          · obtain ⟨h1, h2⟩ := dl_some h
            obtain ⟨xs', g1, _⟩ := a3
            have g1' := (dl_some g1).1
            have ld : l ≠ d := fun z => by rw [z, hd2] at g1'; cases g1'
            rw [dl_ne h2, upd_ne ld]
            exact hk5 _ _ h1 h2
          · rw [dl_ne pR.symm, upd_ne dR.symm]
            exact hR5
        · intro x o e hx
          have xd : x ≠ d := ne_of_none e hd
          rw [upd_ne xd]
          exact hk5 _ _ (hk2 x o e hx) hx
        · obtain ⟨pp, w1, w2⟩ := hp5
          exact ⟨pp, by rw [upd_ne dp.symm]; exact w1, w2⟩
    · rintro σ H2 ⟨kvs, tb, x7, x8, x9, x10, x11, x12, x13, rfl, hd2, hkeys, hrows, hrx, hk2, hp2⟩
      refine ⟨_, rfl, q d H2 kvs tb (fun x o e hx => hk2 _ _ (e1 _ _ e) hx) hdN hd2 ⟨?_, hrows⟩ (hrx.same dl_sub)⟩
      rw [hkeys, List.length_map, List.take_length]
end
end L2.Jw
set_option Elab.async false
set_option linter.all false
set_option maxRecDepth 100000
set_option maxHeartbeats 4000000
namespace L2.Jw
open PySem PySem.Spec PyProof.Rows
section
variable {P : Program} {w : World} {K : PySem.W.Frag} {mg : Str → Option Value} {base : Heap} {c : Cs}
theorem frzD_tkeep {H : Hp} {d : Addr} {od : Obj} {kvs : List (Key × V)} {u : HO} (h : H d = some (.frz od (.dK kvs))) : TKeep K H (upd H d u) := fun b xs hs => by
  rcases hs with (hs | ⟨o, hs⟩) | hs
  · exact .inl (.inl (by rw [upd_ne (fun z => by rw [z, h] at hs; cases hs)]; exact hs))
  · exact .inl (.inr ⟨o, by rw [upd_ne (fun z => by rw [z, h] at hs; cases hs)]; exact hs⟩)
  · exact .inr hs
theorem dK_tkeep {H : Hp} {d : Addr} {kvs : List (Key × V)} {u : HO} (h : H d = some (.dK kvs)) : TKeep K H (upd H d u) := tkeep_upd h (fun _ z => by cases z) (fun _ _ z => by cases z)
theorem rx_len {H : Hp} {kvs : List (Key × V)} {tb : Tb} (h : RulesX K H kvs tb) : kvs.length = tb.length := by
  have := congrArg List.length (rx_keys h)
  rw [List.length_map, List.length_map] at this
  exact this
theorem rx_at {H : Hp} {kvs : List (Key × V)} {tb : Tb} (h : RulesX K H kvs tb) : ∀ {i : Nat} {k : Key} {v : V}, kvs[i]? = some (k, v) → ∃ s rs l, tb[i]? = some (s, rs) ∧ k = Sum.inr s ∧ v = .ref l ∧ RuleLs K H l rs := by
  induction h with
  | nil => intro i k v h; cases h
  | @cons q kv tb kvs a t ih =>
    intro i k v h
    match i, h with
    | 0, h =>
      obtain ⟨a1, l, a2, a3⟩ := a
      cases h
      exact ⟨q.1, q.2, l, rfl, a1, a2, a3⟩
    | i + 1, h => exact ih h
/-! ### _law_handed -/
def spHanded (K : PySem.W.Frag) : Sp := fun vs H Q _ => ∃ (d : Addr) (kvs : List (Key × V)) (tb : Tb), vs = [.ref d] ∧ H d = some (.dK kvs) ∧ RulesX K H kvs tb ∧ (tb.map Prod.fst).Nodup ∧ tb.length ≤ 5 ∧
  ∀ d' H' kvs', Same H H' → H d' = none → H' d' = some (.dK kvs') → RulesX K H' kvs' tb → (∀ kv ∈ kvs', ∀ l, kv.2 = .ref l → H l = none) → (kvs'.map Prod.snd).Nodup → Q (.ref d') H'
abbrev s__law_handed : Stmt := top 71
theorem c__law_handed : FnScope ["_law_rules_here", "_law_handed_here", "_law_name"] ["_law_rules_here"] (defScope s__law_handed) := ⟨rfl, rfl, rfl, by decide +kernel, rfl, by decide +kernel, by decide +kernel⟩
theorem b__law_handed : Bnd0 "_law_handed" "_law_handed" s__law_handed ["_law_rules_here"] := fun _ _ _ _ _ _ us hl => match us, hl with | [_], _ => rfl
theorem d__law_handed (T : Tx K mg c) : Df P w K mg base CX0 1 "_law_handed" (spHanded K) := by
  refine df_0 T.D__law_handed c__law_handed b__law_handed (fun vs H Q E h => ?_) fun f cdv A outer s H vs Q E hr h => ?_
  · obtain ⟨d, kvs, tb, rfl, _⟩ := h
    rfl
  · obtain ⟨d, kvs, tb, rfl, hd, hrx, hnd, hlen, q⟩ := h
    refine ⟨_, (pss_cons (ps_set (i := 1) c__law_handed.nd rfl (Or.inl rfl) pe_dnewK)
      (pss_cons (ps_lock (ps_for PassesOwn.never rfl (pi_keys (pv 0)) (pg_name (i := 2) c__law_handed.nd rfl (Or.inl rfl)) (pss_one (ps_dput (hu_of hr) (pv 1) (pv 2) (pe_callTy call_list_of (by rfl) T.list (by decide +kernel) (pa_cons (pe_dget (hu_of hr) (pv 0) (pv 2) (fun _ _ => rfl)) pa_nil)) rfl))))
      (pss_one (ps_ret (pv 1))))), ?_⟩
    intro d' hd'
    have dd : d ≠ d' := ne_of_none hd hd'
    refine ⟨d, .dK kvs, by rw [upd_ne dd]; exact hd, True.intro, fun od => ?_⟩
    refine ⟨_, rfl, d, od, rfl, .inl ⟨kvs, upd_same, for_it walk_keys (fun i σ H2 => ∃ (kvs' : List (Key × V)) (x2 : Option V), σ = [some (.ref d), some (.ref d'), x2] ∧ H2 d = some (.frz od (.dK kvs)) ∧ H2 d' = some (.dK kvs') ∧ RulesX K H2 kvs' (tb.take i) ∧ (∀ x o, H x = some o → x ≠ d → H2 x = some o) ∧
        (∀ kv ∈ kvs', ∀ l, kv.2 = .ref l → H l = none ∧ ∃ o, H2 l = some o) ∧ (kvs'.map Prod.snd).Nodup)
      ⟨[], none, rfl, upd_same, by rw [upd_ne dd.symm, upd_same], .nil, (fun x o e hx => by rw [upd_ne hx, upd_ne (ne_of_none e hd')]; exact e), (fun kv h => by cases h), List.nodup_nil⟩ (fun i σ H2 _ ⟨_, _, _, h, _⟩ => h) ?_ ?_⟩⟩
    · rintro i x σ H2' H2 hi ⟨kvs', x2, rfl, hd2, hd2', hrx2, hk, hfr, hnd2⟩ ⟨rfl, k, v, hkv, rfl⟩
      obtain ⟨s, rs, l, htb, rfl, rfl, ⟨xs, hl, hda⟩⟩ := rx_at hrx hkv
      have hlen2 : kvs'.length = i := by
        have := rx_len hrx2
        rw [List.length_take] at this
        have := rx_len hrx
        omega
      have hsT : s ∉ (tb.take i).map Prod.fst := fun hm => by
        obtain ⟨j, hj, e⟩ := List.getElem_of_mem hm
        rw [List.length_map, List.length_take] at hj
        rw [List.getElem_map, List.getElem_take] at e
        obtain ⟨hi', e'⟩ := List.getElem?_eq_some_iff.mp htb
        have h1 := List.pairwise_iff_getElem.mp (List.nodup_iff_pairwise_ne.mp hnd) j i (by rw [List.length_map]; omega) (by rw [List.length_map]; exact hi') (by omega)
        rw [List.getElem_map, List.getElem_map, e, e'] at h1
        exact h1 rfl
      have ld : l ≠ d := ne_of hl hd (by intro z; cases z)
      have hvk : valV kvs (Sum.inr s : Key) = some (.ref l) := by
        obtain ⟨l2, rs2, g1, g2, g3, g4⟩ := rx_get hrx (s := s) (List.mem_map.mpr ⟨(s, rs), List.mem_of_getElem? htb, rfl⟩)
        have : ∀ {kvs : List (Key × V)} {i : Nat}, (kvs.map Prod.fst).Nodup → kvs[i]? = some ((Sum.inr s : Key), V.ref l) → valV kvs (Sum.inr s : Key) = some (.ref l) := by
          intro kvs
          induction kvs with
          | nil => intro i _ h; cases h
          | cons p r ih =>
            intro i hn h
            rw [List.map_cons] at hn
            obtain ⟨n1, n2⟩ := List.nodup_cons.mp hn
            match i, h with
            | 0, h => cases h; exact valV_pos rfl
            | i + 1, h =>
              rw [valV_neg (fun z => n1 (by rw [z]; exact List.mem_map.mpr ⟨_, List.mem_of_getElem? h, rfl⟩))]
              exact ih n2 h
        refine this (i := i) ?_ hkv
        rw [rx_keys hrx, List.nodup_iff_pairwise_ne, List.pairwise_map]
        rw [List.nodup_iff_pairwise_ne, List.pairwise_map] at hnd
        exact hnd.imp fun h z => h (Sum.inr.inj z)
      have hl2 := hk _ _ hl ld
      refine ⟨_, rfl, _, rfl, d, _, rfl, .inl ⟨kvs, Sum.inr s, .inr ⟨od, hd2⟩, rfl, hvk.symm⟩, l, xs, rfl, .inl (SqL.of hl2), fun L hL => ?_⟩
      have e3 := same_new (o := .lst xs) hL
      have hL0 : H L = none := by
        cases z : H L with
        | none => rfl
        | some o =>
          by_cases hx : L = d
          · rw [hx, hd2] at hL; cases hL
          · rw [hk _ _ z hx] at hL; cases hL
      refine ⟨_, rfl, _, rfl, d', _, rfl, DPut.k (k := Sum.inr s) (e3 _ _ hd2') (small1000 (by have := rx_len hrx; omega)), ?_⟩
      rw [putK_new _ (rx_none hrx2 hsT)]
      have k4 : TKeep K (upd H2 L (.lst xs)) (upd (upd H2 L (.lst xs)) d' (.dK (kvs' ++ [(Sum.inr s, .ref L)]))) := dK_tkeep (e3 _ _ hd2')
      have Ld' : L ≠ d' := (ne_of_none hd2' hL).symm
      have hk0d : ∀ {x o}, H x = some o → x ≠ d → H2 x = some o := fun {x o} h hx => hk x o h hx
      have kT : TKeep K H (upd H2 L (.lst xs)) := fun b ys hs => by
        refine same_sqT e3 ?_
        rcases hs with (h | ⟨o, h⟩) | h
        · exact .inl (.inl (hk _ _ h fun z => by rw [z, hd] at h; cases h))
        · exact .inl (.inr ⟨o, hk _ _ h fun z => by rw [z, hd] at h; cases h⟩)
        · exact .inr h
      refine ⟨kvs' ++ [(Sum.inr s, .ref L)], _, rfl, by rw [upd_ne dd]; exact e3 _ _ hd2, upd_same, ?_, ?_, ?_, ?_⟩
      · rw [List.take_succ, htb]
        refine paired_snoc (Paired.mapP hrx2 fun qq kv ⟨a1, l3, a2, a3⟩ => ⟨a1, l3, a2, a3.keep (fun b ys h => k4 _ _ (same_sqT e3 h)) fun o h => ?_⟩) ⟨rfl, L, rfl, xs, ?_, rules_tkeep (fun b ys h => k4 _ _ (kT _ _ h)) hda⟩
        · obtain ⟨ys, g1, _⟩ := a3
          rw [upd_ne (fun z => by rw [z, hd2'] at g1; cases g1)]
          exact e3 _ _ h
        · rw [upd_ne Ld', upd_same]
      · intro x o e hx
        rw [upd_ne (ne_of_none e hd')]
        exact e3 _ _ (hk x o e hx)
      · intro kv hkv' l3 hl3
        rcases List.mem_append.mp hkv' with z | z
        · obtain ⟨h1, o, h2⟩ := hfr kv z l3 hl3
          by_cases hx : l3 = d'
          · exact ⟨h1, _, by rw [hx]; exact upd_same⟩
          · exact ⟨h1, o, by rw [upd_ne hx]; exact e3 _ _ h2⟩
        · rw [List.mem_singleton.mp z] at hl3
          cases hl3
          exact ⟨hL0, _, by rw [upd_ne Ld', upd_same]⟩
      · rw [List.map_append, List.nodup_append]
        refine ⟨hnd2, List.nodup_cons.mpr ⟨List.not_mem_nil, List.nodup_nil⟩, fun a ha b hb e => ?_⟩
        have hb' : b = V.ref L := List.mem_singleton.mp hb
        obtain ⟨kv, hkv', rfl⟩ := List.mem_map.mp ha
        obtain ⟨_, o, h2⟩ := hfr kv hkv' L (e.trans hb')
        rw [hL] at h2
        cases h2
    · rintro σ H2 ⟨kvs', x2, rfl, hd2, hd2', hrx2, hk, hfr, hnd2⟩
      refine ⟨hd2, _, rfl, ?_⟩
      have ht : tb.take kvs.length = tb := by rw [rx_len hrx, List.take_length]
      rw [ht] at hrx2
      refine q d' _ kvs' (fun x o e => ?_) hd' (by rw [upd_ne dd.symm]; exact hd2') (Paired.mapP hrx2 fun qq kv ⟨a1, l3, a2, a3⟩ => ⟨a1, l3, a2, a3.keep (frzD_tkeep hd2) fun o h => ?_⟩) (fun kv h l hl => (hfr kv h l hl).1) hnd2
      · by_cases hx : x = d
        · rw [hx, upd_same, ← hd, ← hx, e]
        · rw [upd_ne hx]
          exact hk x o e hx
      · obtain ⟨ys, g1, _⟩ := a3
        rw [upd_ne (fun z => by rw [z, hd2] at g1; cases g1)]
        exact h
end
end L2.Jw
set_option Elab.async false
set_option linter.all false
set_option maxRecDepth 100000
set_option maxHeartbeats 4000000
namespace L2.Jw
open PySem PySem.Spec PyProof.Rows
section
variable {P : Program} {w : World} {K : PySem.W.Frag} {mg : Str → Option Value} {base : Heap} {c : Cs}
def updTb (tb : Tb) (s : Str) (r : Rl) : Tb := tb.map fun q => if q.1 = s then (q.1, q.2 ++ [r]) else q
theorem updTb_keys (tb : Tb) (s : Str) (r : Rl) : (updTb tb s r).map Prod.fst = tb.map Prod.fst := by
  unfold updTb
  rw [List.map_map]
  refine List.map_congr_left fun q _ => ?_
  show (if q.1 = s then (q.1, q.2 ++ [r]) else q).1 = q.1
  by_cases h : q.1 = s
  · rw [if_pos h]
  · rw [if_neg h]
theorem rx_upd {H H' : Hp} {s : Str} {l : Addr} {xs : List V} {v : V} {r : Rl} (kT : TKeep K H H') (hl : H l = some (.lst xs)) (hl' : H' l = some (.lst (xs ++ [v]))) (hv : Dp K H' v (ruleD r)) (hk : ∀ x o, H x = some o → x ≠ l → H' x = some o) :
    ∀ {tb : Tb} {kvs : List (Key × V)}, RulesX K H kvs tb → (tb.map Prod.fst).Nodup → (kvs.map Prod.snd).Nodup → valV kvs (Sum.inr s : Key) = some (.ref l) → RulesX K H' kvs (updTb tb s r) := by
  -- behind the place of l, and where s is not
  have other : ∀ {tb : Tb} {kvs : List (Key × V)}, RulesX K H kvs tb → s ∉ tb.map Prod.fst → V.ref l ∉ kvs.map Prod.snd → RulesX K H' kvs (updTb tb s r) := by
    intro tb kvs h
    induction h with
    | nil => intro _ _; exact .nil
    | @cons q kv tb kvs a t ih =>
      intro h1 h2
      rw [List.map_cons] at h1 h2
      obtain ⟨a1, l2, a2, a3⟩ := a
      have n1 : ¬ q.1 = s := fun z => h1 (by rw [z]; exact List.mem_cons_self ..)
      have n2 : l2 ≠ l := fun z => h2 (by rw [a2, z]; exact List.mem_cons_self ..)
      refine .cons ?_ (ih (fun z => h1 (List.mem_cons_of_mem _ z)) fun z => h2 (List.mem_cons_of_mem _ z))
      dsimp only
      rw [if_neg n1]
      exact ⟨a1, l2, a2, a3.keep kT fun o h => hk _ _ h n2⟩
  intro tb kvs h
  induction h with
  | nil => intro _ _ h; cases h
  | @cons q kv tb kvs a t ih =>
    intro h1 h2 h3
    rw [List.map_cons] at h1 h2
    obtain ⟨d1, d2⟩ := List.nodup_cons.mp h1
    obtain ⟨d3, d4⟩ := List.nodup_cons.mp h2
    obtain ⟨a1, l2, a2, a3⟩ := a
    by_cases e : q.1 = s
    · rw [valV_pos (by rw [a1, e]), a2] at h3
      cases h3
      refine .cons ?_ (other t (by rw [← e]; exact d1) (by rw [← a2]; exact d3))
      dsimp only
      rw [if_pos e]
      obtain ⟨ys, g1, g2⟩ := a3
      rw [hl] at g1
      cases g1
      refine ⟨a1, l, a2, _, hl', ?_⟩
      rw [List.map_append]
      exact dpAll_app (rules_tkeep kT g2) (dpAll_one hv)
    · rw [valV_neg (by rw [a1]; intro y; exact e (Sum.inr.inj y))] at h3
      refine .cons ?_ (ih d2 d4 h3)
      dsimp only
      rw [if_neg e]
      have n2 : l2 ≠ l := fun z => by
        have := valV_in h3
        have hm : V.ref l ∈ kvs.map Prod.snd := by
          unfold valV at h3
          cases hf : kvs.find? (fun kv => decide (kv.1 = (Sum.inr s : Key))) with
          | none => rw [hf] at h3; cases h3
          | some p =>
            rw [hf] at h3
            exact List.mem_map.mpr ⟨p, List.mem_of_find?_eq_some hf, Option.some.inj h3⟩
        exact d3 (by rw [a2, z]; exact hm)
      exact ⟨a1, l2, a2, a3.keep kT fun o h => hk _ _ h n2⟩
def Sub (tb tb' : Tb) : Prop := ∀ s rs, (s, rs) ∈ tb → ∃ rs', (s, rs') ∈ tb' ∧ ∀ r ∈ rs, r ∈ rs'
theorem sub_upd (tb : Tb) (s : Str) (r : Rl) : Sub tb (updTb tb s r) := fun s' rs h => by
  by_cases e : s' = s
  · refine ⟨rs ++ [r], List.mem_map.mpr ⟨(s', rs), h, ?_⟩, fun x hx => List.mem_append_left _ hx⟩
    show (if s' = s then (s', rs ++ [r]) else (s', rs)) = _
    rw [if_pos e]
  · refine ⟨rs, List.mem_map.mpr ⟨(s', rs), h, ?_⟩, fun x hx => hx⟩
    show (if s' = s then (s', rs ++ [r]) else (s', rs)) = _
    rw [if_neg e]
theorem Sub.trans {a b d : Tb} (h1 : Sub a b) (h2 : Sub b d) : Sub a d := fun s rs h => by
  obtain ⟨r1, m1, i1⟩ := h1 s rs h
  obtain ⟨r2, m2, i2⟩ := h2 s r1 m1
  exact ⟨r2, m2, fun x hx => i2 x (i1 x hx)⟩
def spMore (K : PySem.W.Frag) : Sp := fun vs H Q _ => ∃ (p d : Addr) (N : Int) (kvs : List (Key × V)) (tb : Tb) (S : List Str), vs = [.ref p, .ref d, .int N] ∧ PoolAt H p ∧ H d = some (.dK kvs) ∧ RulesX K H kvs tb ∧ TbOk S N 3 tb ∧ S.Nodup ∧ 1 ≤ S.length ∧ S.length ≤ 5 ∧ 2 ≤ N ∧ N ≤ 48 ∧
  ∀ d' H' kvs' tb', But p H H' → H d' = none → H' d' = some (.dK kvs') → TbOk S N 7 tb' → RulesX K H' kvs' tb' → Sub tb tb' → Q (.ref d') H'
abbrev s__law_more : Stmt := top 74
theorem c__law_more : FnScope ["_law_pool_here", "_law_rules_here", "_law_around", "_law_made", "_law_states", "_law_k", "_law_state", "_law_rule", "_law_row", "_law_old"] ["_law_pool_here", "_law_rules_here", "_law_around"] (defScope s__law_more) := ⟨rfl, rfl, rfl, by decide +kernel, rfl, by decide +kernel, by decide +kernel⟩
theorem b__law_more : Bnd0 "_law_more" "_law_more" s__law_more ["_law_pool_here", "_law_rules_here", "_law_around"] := fun _ _ _ _ _ _ us hl => match us, hl with | [_, _, _], _ => rfl
theorem d__law_more (T : Tx K mg c) : Df P w K mg base CX0 2 "_law_more" (spMore K) := by
  refine df_0 T.D__law_more c__law_more b__law_more (fun vs H Q E h => ?_) fun f cdv A outer s H vs Q E hr h => ?_
  · obtain ⟨p, d, N, kvs, tb, S, rfl, _⟩ := h
    rfl
  · obtain ⟨p, d, N, kvs, tb, S, rfl, hp, hd, hrx, hok, hSn, hS1, hS5, n2, n48, q⟩ := h
    have hkeys := hok.keys
    refine ⟨_, (pss_cons (ps_set (i := 3) c__law_more.nd rfl (Or.inl rfl) (pe_D (d__law_handed T) (hr.mono (by first | decide | omega)) rfl pass0 (pa_cons (pv 1) pa_nil)))
      (pss_cons (ps_set (i := 4) c__law_more.nd rfl (Or.inl rfl) (pe_callB cr_sortedS (by rfl) T.sorted (by decide +kernel) (pa_cons (pe_callTy (call_list_dK rfl) (by rfl) T.list (by decide +kernel) (pa_cons (pv 1) pa_nil)) pa_nil)))
      (pss_cons (ps_for PassesOwn.never rfl (pi_range1 (by rfl) T.range (pa_cons (pe_D (d__law_draw T) (hr.mono (by first | decide | omega)) rfl pass0 (pa_cons (pv 0) (pa_cons pe_int pa_nil))) pa_nil)) (pg_name (i := 5) c__law_more.nd rfl (Or.inl rfl))
      (pss_cons (ps_set (i := 6) c__law_more.nd rfl (Or.inl rfl) (pe_ix (r := rIxL K) ix_list (pv 4) (pe_D (d__law_draw T) (hr.mono (by first | decide | omega)) rfl pass0 (pa_cons (pv 0) (pa_cons (pe_callB call_len_seq (by rfl) T.len (by decide +kernel) (pa_cons (pv 4) pa_nil)) pa_nil))) (fun _ _ => rfl)))
      (pss_cons (ps_set (i := 7) c__law_more.nd rfl (Or.inl rfl) (pe_tup (pa_cons pe_str (pa_cons (pe_D (d__law_draw T) (hr.mono (by first | decide | omega)) rfl pass0 (pa_cons (pv 0) (pa_cons (pv 2) pa_nil))) (pa_cons (pe_ix (r := rIxL K) ix_list (pv 4) (pe_D (d__law_draw T) (hr.mono (by first | decide | omega)) rfl pass0 (pa_cons (pv 0) (pa_cons (pe_callB call_len_seq (by rfl) T.len (by decide +kernel) (pa_cons (pv 4) pa_nil)) pa_nil))) (fun _ _ => rfl)) pa_nil)))))
      (pss_cons (ps_set (i := 8) c__law_more.nd rfl (Or.inl rfl) (pe_dget (hu_of hr) (pv 3) (pv 6) (fun _ _ => rfl)))
      (pss_one (ps_if (pt_cmpR op_notIn_seq (pe_ix (r := rIxT K) ix_tup (pv 7) pe_int (fun _ _ => rfl)) (pe_lc (own := [("_law_old", 9)]) (g := (gName 9)) (tt := tYes) (by rfl) c__law_more.nd (pi_list (pv 8)) (blkOk_by (own := [("_law_old", 9)]) (N := ["_law_pool_here", "_law_rules_here", "_law_around", "_law_made", "_law_states", "_law_k", "_law_state", "_law_rule", "_law_row", "_law_old"]) (sc := defScope s__law_more) (by decide +kernel)) (fun _ _ _ _ _ => (pg_name (i := 9) c__law_more.nd rfl (Or.inl rfl))) (fun _ _ _ _ _ => pts_nil) (fun _ _ _ _ _ => (pe_op op_mod (pe_callTy call_int1 (by rfl) T.int (by decide +kernel) (pa_cons (pe_ix (r := rIxT K) ix_tup (pv 9) pe_int (fun _ _ => rfl)) pa_nil)) (pv 2)))) (by rfl)) (pss_one (ps_expr (pe_bm PySem.F.plainAttrs_list PySem.F.slot_list_append PySem.F.type_list_append mt_append (pv 8) (pa_cons (pv 7) pa_nil)))) pss_nil))))))
      (pss_one (ps_ret (pv 3)))))), ?_⟩
    refine ⟨_, rfl, d, kvs, tb, rfl, hd, hrx, by rw [hkeys]; exact hSn, by rw [← List.length_map (f := Prod.fst), hkeys]; exact hS5, fun d' H1 kvs' e1 hd'0 hd'1 hrx1 hfr hnd => ?_⟩
    refine ⟨_, rfl, d, kvs, rfl, e1 _ _ hd, fun l0 hl0 => ?_⟩
    have hkv : (kvs.map fun kv => kV kv.1) = S.map V.str := by
      have h1 : (kvs.map fun kv => kV kv.1) = (kvs.map Prod.fst).map kV := by rw [List.map_map]; rfl
      rw [h1, rx_keys hrx, ← hkeys, List.map_map, List.map_map]
      rfl
    rw [hkv]
    refine ⟨l0, S, rfl, SqL.of upd_same, by omega, fun ys Sa pm _ hSa => ?_⟩
    have hysl : ys.length = S.length := pm.length_eq
    have e2 : Same H1 (upd (upd H1 l0 (.lst (S.map V.str))) Sa (.lst (ys.map V.str))) := (same_new hl0).trans (same_new hSa)
    have hp2 := (hp.same e1).same e2
    have pSa : p ≠ Sa := by
      have := (hp.same e1).same (same_new (o := .lst (S.map V.str)) hl0)
      exact this.ne hSa
    refine ⟨_, rfl, p, 5, rfl, by decide, by decide, hp2, fun many H3 m0 m1 b3 hp3 => ⟨many, rfl, by omega, by omega, ?_⟩⟩
    have d'p : d' ≠ p := fun z => by
      obtain ⟨xs, g1, _⟩ := hp
      rw [z, g1] at hd'0
      cases hd'0
    have lp : ∀ kv ∈ kvs', ∀ l, kv.2 = .ref l → l ≠ p := fun kv hkv l hl z => by
      have := hfr kv hkv l hl
      obtain ⟨xs, g1, _⟩ := hp
      rw [z, g1] at this
      cases this
    have lSa : ∀ kv ∈ kvs', ∀ l, kv.2 = .ref l → l ≠ Sa := fun kv hkv l hl => by
      obtain ⟨i, hi, e⟩ := List.getElem_of_mem hkv
      obtain ⟨s', rs', l', _, _, h2, xs, h3, _⟩ := rx_at hrx1 (i := i) (k := kv.1) (v := kv.2) (by rw [List.getElem?_eq_getElem hi, e])
      rw [hl] at h2
      cases h2
      exact ne_of_none ((same_new (o := .lst (S.map V.str)) hl0) _ _ h3) hSa
    have kT3 : TKeep K H1 H3 := fun b zs hs => by
      obtain ⟨pp, w1, _⟩ := hp2
      exact b3.tkeep w1 _ _ (same_sqT e2 hs)
    refine for_it (walk_range (lo := 0)) (fun i σ H2 => ∃ (tb2 : Tb) (x5 x6 x7 x8 x9 : Option V), σ = [some (.ref p), some (.ref d), some (.int N), some (.ref d'), some (.ref Sa), x5, x6, x7, x8, x9] ∧ H2 d' = some (.dK kvs') ∧ H2 Sa = some (.lst (ys.map V.str)) ∧ RulesX K H2 kvs' tb2 ∧ tb2.map Prod.fst = S ∧ (∀ q ∈ tb2, RowOk S N (3 + i) q.2) ∧ Sub tb tb2 ∧ (∀ x o, H x = some o → x ≠ p → H2 x = some o) ∧ PoolAt H2 p)
      ⟨tb, none, none, none, none, none, rfl, b3 _ _ (e2 _ _ hd'1) d'p, b3 _ _ upd_same pSa.symm, ?_, hkeys, hok.rows, (fun s rs h => ⟨rs, h, fun r hr => hr⟩), (fun x o e hx => b3 _ _ (e2 _ _ (e1 _ _ e)) hx), hp3⟩ (fun _ _ _ _ _ => True.intro) ?_ ?_
    · have : ∀ {kvs : List (Key × V)} {tb : Tb}, RulesX K H1 kvs tb → (∀ kv ∈ kvs, ∀ l, kv.2 = .ref l → l ≠ p) → RulesX K H3 kvs tb := by
        intro kvs tb h
        induction h with
        | nil => intro _; exact .nil
        | @cons q kv tb kvs a t ih =>
          intro hlp
          obtain ⟨a1, l, a2, a3⟩ := a
          exact .cons ⟨a1, l, a2, a3.keep kT3 fun o h => b3 _ _ (e2 _ _ h) (hlp kv (List.mem_cons_self ..) l a2)⟩ (ih fun kv h => hlp kv (List.mem_cons_of_mem _ h))
      exact this hrx1 lp
    · rintro i x σ H4' H4 hi ⟨tb2, x5, x6, x7, x8, x9, rfl, hd4, hSa4, hrx4, hk4, hro4, hsub4, hfr4, hp4⟩ ⟨rfl, rfl⟩
      have i4 : i ≤ 4 := by omega
      have dSa : d' ≠ Sa := ne_of hd4 hSa4 (by intro z; cases z)
      -- the state
      have yat : ∀ r : Int, 0 ≤ r → r < (ys.map V.str).length → ∃ z, z ∈ S ∧ atI (ys.map V.str) r = some (.str z) := fun r r0 r1 => by
        rw [List.length_map] at r1
        have hx : r.toNat < ys.length := by omega
        refine ⟨ys[r.toNat], pm.mem_iff.mp (List.getElem_mem hx), ?_⟩
        have := atI_nat (xs := ys.map V.str) (j := r.toNat) (v := V.str ys[r.toNat]) (by rw [List.getElem?_map, List.getElem?_eq_getElem hx]; rfl)
        rw [Int.toNat_of_nonneg r0] at this
        exact this
      have ypos : (0 : Int) < ((ys.map V.str).length : Int) := by rw [List.length_map]; omega
      have ysm : ((ys.map V.str).length : Int) < 2 ^ 60 := by rw [List.length_map]; omega
      refine ⟨_, rfl, _, rfl, _, rfl, Sa, _, rfl, .inl (SqL.of hSa4), p, _, rfl, ypos, ysm, hp4, fun r5 H5 r50 r51 b5 hp5 => ?_⟩
      obtain ⟨st, hst, hat⟩ := yat r5 r50 r51
      have hSa5 := b5 _ _ hSa4 pSa.symm
      refine ⟨Sa, _, _, _, rfl, rfl, SqL.of hSa5, hat, ?_⟩
      -- the rule
      refine ⟨_, rfl, _, rfl, p, N, rfl, by omega, by omega, hp5, fun t H6 t0 t1 b6 hp6 => ?_⟩
      have hSa6 := b6 _ _ hSa5 pSa.symm
      refine ⟨_, rfl, _, rfl, _, rfl, Sa, _, rfl, .inl (SqL.of hSa6), p, _, rfl, ypos, ysm, hp6, fun r7 H7 r70 r71 b7 hp7 => ?_⟩
      obtain ⟨gl, hgl, hgat⟩ := yat r7 r70 r71
      have hSa7 := b7 _ _ hSa6 pSa.symm
      refine ⟨Sa, _, _, _, rfl, rfl, SqL.of hSa7, hgat, (by show 3 ≤ sizeLine; decide), fun u hu => ?_⟩
      have e8 := same_new (o := .tup [.str "squeeze", .int t, .str gl]) hu
      have k7 : ∀ x o, H4 x = some o → x ≠ p → H7 x = some o := fun x o e hx => b7 _ _ (b6 _ _ (b5 _ _ e hx) hx) hx
      obtain ⟨l, rs, hvl, hmem, hlk, ⟨xs, hl4, hda4⟩⟩ := rx_get hrx4 (s := st) (by rw [hk4]; exact hst)
      have hlmem : ∃ kv ∈ kvs', kv.2 = .ref l := by
        unfold valV at hvl
        cases hf : kvs'.find? (fun kv => decide (kv.1 = (Sum.inr st : Key))) with
        | none => rw [hf] at hvl; cases hvl
        | some pq =>
          rw [hf] at hvl
          exact ⟨pq, List.mem_of_find?_eq_some hf, Option.some.inj hvl⟩
      obtain ⟨kv0, hkv0, hkv0l⟩ := hlmem
      have lp0 := lp kv0 hkv0 l hkv0l
      have lSa0 := lSa kv0 hkv0 l hkv0l
      have k8 : ∀ x o, H4 x = some o → x ≠ p → upd H7 u (.tup [.str "squeeze", .int t, .str gl]) x = some o := fun x o e hx => e8 _ _ (k7 x o e hx)
      have kT8 : TKeep K H4 (upd H7 u (.tup [.str "squeeze", .int t, .str gl])) := fun b zs hs => by
        obtain ⟨pp, w1, _⟩ := hp4
        exact (show But p H4 (upd H7 u _) from k8).tkeep w1 _ _ hs
      have hd8 := k8 _ _ hd4 d'p
      have hl8 := k8 _ _ hl4 lp0
      refine ⟨_, rfl, _, rfl, d', _, rfl, (by rw [← hvl]; exact DGet.k (k := Sum.inr st) hd8), ?_⟩
      have hda8 := rules_tkeep kT8 hda4
      have hxl : xs.length = rs.length := by have := dpAll_len hda4; rw [List.length_map] at this; exact this
      have hrs : rs.length ≤ 7 := Nat.le_trans (hro4 _ hmem).len (by omega)
      generalize hH8 : upd H7 u (.tup [.str "squeeze", .int t, .str gl]) = H8 at *
      have hu8 : SqT K H8 u [.str "squeeze", .int t, .str gl] := by rw [← hH8]; exact SqT.of upd_same
      have hp8 : PoolAt H8 p := hp7.same e8
      refine ⟨_, rfl, u, _, _, _, rfl, rfl, hu8, atI1, ?_⟩
      -- the turns of the row
      refine ⟨_, rfl, l, rfl, ⟨xs, SqL.of hl8⟩, fun D hD => lc_fm walk_list (fun i => (rs[i]?).map fun r => r.1 % N) (fun a y H => y = V.int a) hD (fun H e => SqL.of (e _ _ hl8)) (by omega) (fun _ _ _ _ _ _ _ h => h) ?_ ?_⟩
      · rintro j y H9 H10 Cy Cn hj e9 ⟨rfl, hy⟩ hCy _
        obtain ⟨r, hrj, hdr⟩ := dpAll_item hda8 hy
        obtain ⟨qa, rfl, hqa⟩ := dp_rule hdr
        refine ⟨rfl, _, rfl, qa, _, _, _, rfl, rfl, same_sqT e9 hqa, atI1, .inl ⟨_, rfl, _, rfl, _, _, rfl, rfl, by omega, hCy (r.1 % N) _ _ (by rw [hrj]; rfl) (Same.refl _) rfl⟩⟩
      · intro H9 acc e9 hacc hpd
        rw [hxl, fm_map] at hpd
        have hacc' := pairedInts hpd
        subst hacc'
        refine ⟨D, _, rfl, .inl (SqL.of hacc), rfl, flat_ints _, _, rfl, ?_⟩
        have hin : inV (V.int t) ((rs.map fun r => r.1 % N).map V.int) = decide (t ∈ rs.map fun r => r.1 % N) := inV_int t _
        rw [hin]
        have k9 : ∀ x o, H4 x = some o → x ≠ p → H9 x = some o := fun x o e hx => e9 _ _ (k8 x o e hx)
        have kT9 : TKeep K H4 H9 := fun b zs hs => same_sqT e9 (kT8 _ _ hs)
        have hp9 := hp8.same e9
        have keep9 : RulesX K H9 kvs' tb2 := by
          have : ∀ {kvs : List (Key × V)} {tb : Tb}, RulesX K H4 kvs tb → (∀ kv ∈ kvs, ∀ l, kv.2 = .ref l → l ≠ p) → RulesX K H9 kvs tb := by
            intro kvs tb h
            induction h with
            | nil => intro _; exact .nil
            | @cons q kv tb kvs a t ih =>
              intro hlp
              obtain ⟨a1, l, a2, a3⟩ := a
              exact .cons ⟨a1, l, a2, a3.keep kT9 fun o h => k9 _ _ h (hlp kv (List.mem_cons_self ..) l a2)⟩ (ih fun kv h => hlp kv (List.mem_cons_of_mem _ h))
          exact this hrx4 lp
        by_cases hm : t ∈ rs.map fun r => r.1 % N
        · refine inD hm ?_
          exact ⟨tb2, _, _, _, _, _, rfl, k9 _ _ hd4 d'p, k9 _ _ hSa4 pSa.symm, keep9, hk4, fun qq hq => ⟨Nat.le_trans (hro4 qq hq).len (by omega), (hro4 qq hq).goal, (hro4 qq hq).nd⟩, hsub4, fun x o e hx => k9 _ _ (hfr4 x o e hx) hx, hp9⟩
        · refine inN hm ?_
          have hl9 := e9 _ _ hl8
          refine ⟨_, rfl, .inl ⟨rfl, _, SqL.of hl9⟩, _, rfl, l, xs, _, rfl, rfl, hl9, small1000 (by omega), ?_⟩
          have k10 : TKeep K H9 (upd H9 l (.lst (xs ++ [.ref u]))) := lst_tkeep hl9
          have dl' : d' ≠ l := ne_of hd4 hl4 (by intro z; cases z)
          refine ⟨updTb tb2 st (t, gl), _, _, _, _, _, rfl, by rw [upd_ne dl']; exact k9 _ _ hd4 d'p, by rw [upd_ne lSa0.symm]; exact k9 _ _ hSa4 pSa.symm,
            rx_upd k10 hl9 upd_same (rule_dp (k10 _ _ (same_sqT e9 hu8))) (fun x o e hx => by rw [upd_ne hx]; exact e) keep9 (by rw [hk4]; exact hSn) hnd hvl, by rw [updTb_keys]; exact hk4, ?_, hsub4.trans (sub_upd _ _ _), ?_, hp9.but but_upd lp0.symm⟩
          · intro qq hq
            obtain ⟨q0, hq0, rfl⟩ := List.mem_map.mp hq
            have R0 := hro4 q0 hq0
            show RowOk S N (3 + (i + 1)) (if q0.1 = st then (q0.1, q0.2 ++ [(t, gl)]) else q0).2
            by_cases hs : q0.1 = st
            · rw [if_pos hs]
              have hq0' : q0.2 = rs := by
                -- one row a state
                have h1 : tb2.lookup q0.1 = some q0.2 := by
                  have : ∀ {tb : Tb}, (tb.map Prod.fst).Nodup → q0 ∈ tb → tb.lookup q0.1 = some q0.2 := by
                    intro tb
                    induction tb with
                    | nil => intro _ h; cases h
                    | cons a t ih =>
                      intro hn hm
                      rw [List.map_cons] at hn
                      obtain ⟨d1, d2⟩ := List.nodup_cons.mp hn
                      obtain ⟨a1, a2⟩ := a
                      rcases List.mem_cons.mp hm with z | z
                      · rw [z]; simp [List.lookup]
                      · have e' : (q0.1 == a1) = false := by
                          have : ¬ q0.1 = a1 := fun z2 => d1 (by rw [← z2]; exact List.mem_map.mpr ⟨q0, z, rfl⟩)
                          simpa using this
                        rw [List.lookup_cons, e']
                        exact ih d2 z
                  exact this (by rw [hk4]; exact hSn) hq0
                rw [hs, hlk] at h1
                exact (Option.some.inj h1).symm
              refine ⟨?_, ?_, ?_⟩
              · show (q0.2 ++ [(t, gl)]).length ≤ _
                rw [List.length_append]
                exact Nat.succ_le_succ R0.len
              · intro r hr
                rcases List.mem_append.mp hr with z | z
                · exact R0.goal r z
                · rw [List.mem_singleton.mp z]
                  exact hgl
              · show ((q0.2 ++ [(t, gl)]).map fun r => r.1 % N).Nodup
                rw [List.map_append, List.nodup_append]
                refine ⟨R0.nd, List.nodup_cons.mpr ⟨List.not_mem_nil, List.nodup_nil⟩, fun a ha b hb e => ?_⟩
                have hb' : b = t % N := List.mem_singleton.mp hb
                rw [Int.emod_eq_of_lt t0 t1] at hb'
                rw [e, hb', hq0'] at ha
                exact hm ha
            · rw [if_neg hs]
              exact ⟨Nat.le_trans R0.len (by omega), R0.goal, R0.nd⟩
          · intro x o e hx
            have h4 := hfr4 x o e hx
            have xl : x ≠ l := fun z => by
              have := hfr kv0 hkv0 l hkv0l
              rw [z, this] at e
              cases e
            rw [upd_ne xl]
            exact k9 _ _ h4 hx
    · rintro σ H4 ⟨tb2, x5, x6, x7, x8, x9, rfl, hd4, hSa4, hrx4, hk4, hro4, hsub4, hfr4, hp4⟩
      exact ⟨_, rfl, q d' H4 kvs' tb2 hfr4 hd'0 hd4 ⟨hk4, fun qq hq => ⟨Nat.le_trans (hro4 qq hq).len (by omega), (hro4 qq hq).goal, (hro4 qq hq).nd⟩⟩ hrx4 hsub4⟩
end
end L2.Jw
set_option Elab.async false
set_option linter.all false
set_option maxRecDepth 100000
set_option maxHeartbeats 4000000
namespace L2.Jw
open PySem PySem.Spec PyProof.Rows
/-! ### a set of different ("squeeze", t): only how many they are is asked -/
abbrev tkK (v : Int) : List Key := [Sum.inr "squeeze", Sum.inl v]
section
variable (P : Program) (w : World)
abbrev kh (v : Int) : Int := tupleKeyHash (mixKind P w) (tkK v)
/-- at b stands the tuple ("squeeze", v) -/
abbrev IsK (h : Heap) (v : Int) (b : Addr) : Prop := IsTupleKey (mixKind P w) h (tkK v) b
/-- the entries of the set, in the table's order -/
abbrev rowK (q : Addr × Int) : Int × Value := (kh P w q.2, Value.ref q.1)
structure SetS (h : Heap) (a : Addr) (L : List (Addr × Int)) (es : Array (Int × Value)) (ep : Nat) (t : SetTable) : Prop where
  here : ∃ o, h.get? a = some o ∧ o.ExactSet ∧ o.data = .set es ep t
  rows : es.toList = L.map (rowK P w)
  tab : TabOk t (L.map fun q => kh P w q.2)
  room : L.length * 5 < t.mask * 3
  few : L.length < 60
end
section
variable {P : Program} {w : World} {A : Around} {E : Value → Shared → Prop} {s : Shared} {a : Addr} {L : List (Addr × Int)} {es : Array (Int × Value)} {ep : Nat} {t : SetTable}
theorem rows_size (h : es.toList = L.map (rowK P w)) : es.size = L.length := by
  rw [← Array.length_toList, h, List.length_map]
theorem tab_fits {hs : List Int} (T : TabOk t hs) (hl : hs.length = es.size) (hm : es.size ≤ t.mask) : t.fits es.size = true := by
  have h1 := T.sz
  unfold SetTable.fits SetTable.fill
  rw [T.dm, h1, hl, Bool.and_eq_true, beq_iff_eq, decide_eq_true_eq]
  exact ⟨rfl, hm⟩
theorem SetS.fit (S : SetS P w s.heap a L es ep t) : t.fits es.size = true := by
  have h1 := rows_size S.rows
  have h2 := S.room
  exact tab_fits S.tab (by rw [List.length_map, h1]) (by omega)
theorem isK_items {h : Heap} {v : Int} {b : Addr} (x : IsK P w h v b) : ∃ (o : Obj) (its : Array Value) (n : Nat) (t1 t2 : Tok), h.get? b = some o ∧ o.cls = .type "tuple" ∧ o.data = .seq its n ∧ its.toList = [Value.str "squeeze" t1, Value.int v t2] := by
  obtain ⟨o, its, n, h1, h2, h3, h4⟩ := x
  generalize hi : its.toList = us at h4
  cases h4 with
  | cons k1 h5 =>
    cases h5 with
    | cons k2 h6 =>
      cases h6
      have k1' : keyIs (Sum.inr "squeeze") _ = true := k1
      have k2' : keyIs (Sum.inl v) _ = true := k2
      rcases keyIs_shape k1' with ⟨i, t0, e1, _⟩ | ⟨z, t1, e1, e2⟩
      · cases e1
      · cases e1
        rcases keyIs_shape k2' with ⟨i, t2, e3, e4⟩ | ⟨z, t0, e3, _⟩
        · cases e3
          exact ⟨o, its, n, t1, t2, h1, h2, h3, by rw [hi, e2, e4]⟩
        · cases e3
/-- a text in it: not of the same value in each run -/
theorem isK_byText {v : Int} {b : Addr} {Q : Bool → Shared → Prop} (x : IsK P w s.heap v b) (h : Q false s) : wpAny (model P w) A (hashByValue 8 (.ref b)) Q E s := by
  have ty := x.typeIs
  obtain ⟨o, its, n, t1, t2, h1, _, h3, h4⟩ := isK_items x
  unfold hashByValue
  refine wpAny_bind (wpAny_specialOf ty PySem.F.slot_tuple_hash.lookup ?_)
  show wpAny _ _ (seqItems? (.ref b) >>= _) _ _ s
  refine wpAny_bind (wpAny_seqItems h1 h3 (wpAny_bind ?_))
  show wpAny _ _ (forIn its _ _) _ _ s
  rw [← Array.forIn_toList, h4, List.forIn_cons]
  have e1 : hashByValue 7 (Value.str "squeeze" t1) = pure false := rfl
  rw [e1]
  refine wpAny_bind (wpAny_bind (wpAny_pure ?_))
  simp only [Bool.not_false, if_true]
  refine wpAny_pure ?_
  exact wpAny_pure (wpAny_pure h)
theorem isK_noClass {v : Int} {b : Addr} {Q : Bool → Shared → Prop} (x : IsK P w s.heap v b) (h : Q false s) : wpAny (model P w) A (ofAClassStatement 8 (.ref b)) Q E s := by
  have ty := x.typeIs
  obtain ⟨o, its, n, t1, t2, h1, _, h3, h4⟩ := isK_items x
  unfold ofAClassStatement
  refine wpAny_bind (wpAny_typeOf ty ?_)
  dsimp only
  simp only [beq_self_eq_true, if_true]
  refine wpAny_bind (wpAny_pure ?_)
  simp only [Bool.not_true, Bool.false_eq_true, if_false]
  show wpAny _ _ (seqItems? (.ref b) >>= _) _ _ s
  refine wpAny_bind (wpAny_seqItems h1 h3 ?_)
  dsimp only
  refine wpAny_bind ?_
  show wpAny _ _ (forIn its _ _) _ _ s
  rw [← Array.forIn_toList, h4, List.forIn_cons]
  have e1 : ofAClassStatement 7 (Value.str "squeeze" t1) = pure false := rfl
  have e2 : ofAClassStatement 7 (Value.int v t2) = pure false := rfl
  rw [e1]
  refine wpAny_bind (wpAny_bind (wpAny_pure ?_))
  simp only [Bool.false_eq_true, if_false]
  refine wpAny_pure ?_
  dsimp only
  rw [List.forIn_cons, e2]
  refine wpAny_bind (wpAny_bind (wpAny_pure ?_))
  simp only [Bool.false_eq_true, if_false]
  refine wpAny_pure ?_
  dsimp only
  rw [List.forIn_nil]
  exact wpAny_pure (wpAny_pure h)
end
end L2.Jw
set_option Elab.async false
set_option linter.all false
set_option maxRecDepth 100000
set_option maxHeartbeats 4000000
namespace L2.Jw
open PySem PySem.Spec PyProof.Rows
section
variable {P : Program} {w : World} {A : Around} {E : Value → Shared → Prop} {s : Shared} {a : Addr} {L : List (Addr × Int)} {es : Array (Int × Value)} {ep : Nat} {t : SetTable}
/-- among such tuples a search can't be seen -/
theorem isK_unseen {v : Int} {b : Addr} {Q : Bool → Shared → Prop} (x : IsK P w s.heap v b) {ys : List Value} (all : ∀ y ∈ ys, ∃ u d, y = Value.ref d ∧ IsK P w s.heap u d) (h : Q false s) : wpAny (model P w) A (searchCouldBeSeen (.ref b) ys) Q E s := by
  unfold searchCouldBeSeen
  refine wpAny_bind (wpAny_forIn_list _ (fun rest r z => z = s ∧ r.1 = none ∧ ∀ y ∈ rest, ∃ u d, y = Value.ref d ∧ IsK P w s.heap u d) _ ?_ ?_ ys _ ⟨rfl, rfl, all⟩)
  · rintro y rest r z ⟨rfl, _, al⟩
    have al2 : ∀ y ∈ rest, ∃ u d, y = Value.ref d ∧ IsK P w z.heap u d := fun y m => al y (List.mem_cons_of_mem _ m)
    obtain ⟨u, d, rfl, isd⟩ := al y List.mem_cons_self
    dsimp only
    by_cases same : (b == d || (carriedByValue (.ref b) && carriedByValue (.ref d))) = true
    · exact wp_if_pos same (wpAny_pure ⟨rfl, rfl, al2⟩)
    · refine wp_if_neg same (wpAny_bind (wpAny_eqIsQuiet_tuple x ?_))
      simp only [Bool.not_true, Bool.false_eq_true, if_false]
      refine wpAny_bind (wpAny_eqIsQuiet_tuple isd ?_)
      simp only [Bool.not_true, Bool.false_eq_true, if_false]
      refine wpAny_bind (isK_noClass x ?_)
      simp only [Bool.false_eq_true, if_false]
      refine wpAny_bind (isK_noClass isd ?_)
      simp only [Bool.false_eq_true, if_false]
      exact wpAny_pure ⟨rfl, rfl, al2⟩
  · rintro ⟨r, _⟩ z ⟨rfl, e, _⟩
    cases e
    exact wpAny_pure h
abbrev pr0 (t : SetTable) (hv : Int) : SetTable.Probe := runAt t.mask (SetTable.bits hv % (t.mask + 1)) (SetTable.bits hv)
theorem nth_dummy (m : Nat) : ∀ (n : Nat) (p : SetTable.Probe), p.dummy = none → (nth m p n).dummy = none
  | 0, _, h => h
  | n + 1, p, h => nth_dummy m n (adv m p) (by unfold adv; split <;> exact h)
theorem row_at (h : es.toList = L.map (rowK P w)) {i : Nat} {q : Addr × Int} (e : L[i]? = some q) : es[i]? = some (rowK P w q) := by
  rw [← Array.getElem?_toList, h, List.getElem?_map, e]
  rfl
/-- the search for a new one comes to the first empty slot of its way -/
theorem seek_from (S : SetS P w s.heap a L es ep t) (tup : ∀ q ∈ L, IsK P w s.heap q.2 q.1) {x : Addr} {v : Int} (isx : IsK P w s.heap v x) (new : ∀ q ∈ L, q.2 ≠ v) (hu : A.units < cLine) {K : Nat} (hK1 : K < 10 * SetTable.turns t.mask)
    (hK2 : way t.mask (kh P w v) K ∉ t.place.toList) (hK3 : ∀ c, c < K → way t.mask (kh P w v) c ∈ t.place.toList) {Q : SetFound → Shared → Prop} (out : Q (.free (way t.mask (kh P w v) K) false) s) :
    ∀ (fuel c : Nat) (stand : Option SetTable.Probe), c ≤ K → K < c + fuel → stand.getD (t.probeStart (kh P w v)) = nth t.mask (pr0 t (kh P w v)) c → wpAny (model P w) A (setSearchFrom a (.ref x) (kh P w v) true fuel stand) Q E s := by
  intro fuel
  induction fuel with
  | zero => intro c stand h1 h2 _; exact absurd h2 (by omega)
  | succ fuel ih =>
    intro c stand h1 h2 h3
    obtain ⟨o, ho, hx, hd⟩ := S.here
    have onward : ∀ q, (nth t.mask (nth t.mask (pr0 t (kh P w v)) c) q) = nth t.mask (pr0 t (kh P w v)) (c + q) := fun q => (nth_add t.mask c _ q).symm
    have wayq : ∀ q, (nth t.mask (nth t.mask (pr0 t (kh P w v)) c) q).j = way t.mask (kh P w v) (c + q) := fun q => by rw [onward]
    have hcK : c + (K - c) = K := by omega
    have met := go_spec t S.tab.ris S.tab.dm (fun i => (es[i]?.map (·.1)).getD 0) (kh P w v) (10 * SetTable.turns t.mask) (K - c) (nth t.mask (pr0 t (kh P w v)) c) (nth_dummy _ _ _ rfl) (by omega)
      (fun q hq => by rw [wayq]; exact hK3 _ (by omega)) (by rw [wayq, hcK]; exact hK2)
    rw [setSearchFrom_succ]
    refine wpAny_bind (wpAny_setState_of ho hd S.fit ?_)
    dsimp only
    refine wp_if_neg (by unfold SetTable.gaveWay; rw [mask_odd S.tab.mok]; decide) ?_
    try refine wpAny_bind (wpAny_pure ?_)
    rcases met with ⟨q, i, hq, hi, _, _, pr⟩ | ⟨_, pr⟩
    · have pr2 : t.probe (fun i => (es[i]?.map (·.1)).getD 0) (kh P w v) (stand.getD (t.probeStart (kh P w v))) = some (.candidate (way t.mask (kh P w v) (c + q)) i (nth t.mask (pr0 t (kh P w v)) (c + (q + 1)))) := by
        rw [h3, ← wayq, ← onward]
        exact pr
      rw [pr2]
      dsimp only
      rw [wayq] at hi
      have hiL : i < L.length := by
        have k1 : i < t.place.toList.length := (List.getElem?_eq_some_iff.mp hi).1
        have k2 := S.tab.sz
        rw [List.length_map] at k2
        rw [Array.length_toList, k2] at k1
        exact k1
      obtain ⟨⟨d, u⟩, hL⟩ : ∃ q, L[i]? = some q := ⟨_, List.getElem?_eq_getElem hiL⟩
      have mem := List.mem_of_getElem? hL
      have isd := tup _ mem
      have live : t.slot (way t.mask (kh P w v) (c + q)) = .live i := slot_live S.tab.ris hi
      have far : wpAny (model P w) A (searchRest a (.ref x) (kh P w v) true fuel es t (way t.mask (kh P w v) (c + q)) i (nth t.mask (pr0 t (kh P w v)) (c + (q + 1)))) Q E s := by
        have other : ¬ tkK u = tkK v := fun z => new _ mem (by injection z with _ z; injection z with z; exact Sum.inl.inj z)
        unfold searchRest
        rw [row_at S.rows hL]
        dsimp only
        refine wpAny_bind (wpAny_holding (wpAny_eqBool_tuple hu isd isx ?_))
        rw [decide_eq_false other]
        refine wpAny_bind (wpAny_setState_of ho hd S.fit ?_)
        dsimp only
        refine wp_if_neg (by decide) ?_
        try refine wpAny_bind (wpAny_pure ?_)
        rw [sameMem]
        dsimp only
        simp only [if_true, live, row_at S.rows hL]
        refine wpAny_bind (wpAny_isSame_ref_self (wpAny_bind (wpAny_pure ?_)))
        simp only [if_true]
        refine wp_if_neg (by decide) ?_
        exact ih (c + (q + 1)) _ (by omega) (by omega) rfl
      by_cases led : t.led = true
      · refine wp_if_neg (by rw [led]; decide) ?_
        try refine wpAny_bind (wpAny_pure ?_)
        exact far
      · refine wp_if_pos (by simp [led]) (wpAny_bind (isK_unseen isx (fun y hy => ?_) ?_))
        · obtain ⟨z, hz, rfl⟩ := List.mem_map.mp hy
          have hz2 : z ∈ es.toList := by
            have : z ∈ es ∧ z.1 = kh P w v := by simpa using hz
            simpa using this.1
          rw [S.rows] at hz2
          obtain ⟨q2, m2, rfl⟩ := List.mem_map.mp hz2
          exact ⟨q2.2, q2.1, rfl, tup q2 m2⟩
        · refine wp_if_neg (by decide) ?_
          try refine wpAny_bind (wpAny_pure ?_)
          exact far
    · have pr2 : t.probe (fun i => (es[i]?.map (·.1)).getD 0) (kh P w v) (stand.getD (t.probeStart (kh P w v))) = some (.empty (way t.mask (kh P w v) K) none) := by
        rw [h3, show way t.mask (kh P w v) K = (nth t.mask (nth t.mask (pr0 t (kh P w v)) c) (K - c)).j by rw [wayq, hcK]]
        exact pr
      rw [pr2]
      exact wpAny_pure out
theorem seek_new (S : SetS P w s.heap a L es ep t) (tup : ∀ q ∈ L, IsK P w s.heap q.2 q.1) {x : Addr} {v : Int} (isx : IsK P w s.heap v x) (new : ∀ q ∈ L, q.2 ≠ v) (hu : A.units < cLine) {Q : SetFound → Shared → Prop}
    (out : ∀ K, way t.mask (kh P w v) K ∉ t.place.toList → (∀ c, c < K → way t.mask (kh P w v) c ∈ t.place.toList) → Q (.free (way t.mask (kh P w v) K) false) s) : wpAny (model P w) A (setSearch a (.ref x) (kh P w v) true) Q E s := by
  obtain ⟨K, k1, k2, k3⟩ := S.tab.first (by have := S.room; rw [List.length_map]; omega) (kh P w v)
  have small : K < 100000 := by
    have : SetTable.turns t.mask ≤ 142 := by
      unfold SetTable.turns
      rcases S.tab.mok with e | e | e <;> rw [e] <;> omega
    omega
  unfold setSearch
  exact seek_from S tup isx new hu k1 k2 k3 (out K k2 k3) 100000 0 none (Nat.zero_le _) (by omega) rfl
end
end L2.Jw
set_option Elab.async false
set_option linter.all false
set_option maxRecDepth 100000
set_option maxHeartbeats 4000000
namespace L2.Jw
open PySem PySem.Spec PyProof.Rows
section
variable {P : Program} {w : World} {A : Around} {E : Value → Shared → Prop} {s : Shared} {a : Addr} {L : List (Addr × Int)} {es : Array (Int × Value)} {ep : Nat} {t : SetTable}
theorem pick_all {α : Type} : ∀ (l : List α), (List.range l.length).filterMap (fun i => l[i]?) = l := by
  intro l
  induction l with
  | nil => rfl
  | cons x l ih =>
    rw [List.length_cons, List.range_succ_eq_map, List.filterMap_cons, List.filterMap_map]
    exact congrArg (x :: ·) ih
/-- the entries taken in another order -/
theorem rows_order (h : es.toList = L.map (rowK P w)) {ord : List Nat} (pm : ord.Perm (List.range L.length)) : ∃ L2 : List (Addr × Int), L2.Perm L ∧ ord.filterMap (fun i => es[i]?) = L2.map (rowK P w) ∧ (L2.map fun q => kh P w q.2) = ord.map fun i => (es.map (·.1)).getD i 0 := by
  have inR : ∀ i ∈ ord, i < L.length := fun i m => List.mem_range.mp (pm.mem_iff.mp m)
  refine ⟨ord.filterMap fun i => L[i]?, ?_, ?_, ?_⟩
  · have := pm.filterMap (fun i => L[i]?)
    rw [pick_all] at this
    exact this
  · rw [List.map_filterMap]
    congr 1
    funext i
    rw [← Array.getElem?_toList, h, List.getElem?_map]
  · clear pm
    induction ord with
    | nil => rfl
    | cons i ord ih =>
      have hi := inR i List.mem_cons_self
      have e1 : L[i]? = some L[i] := List.getElem?_eq_getElem hi
      have e2 : (es.map (·.1)).getD i 0 = kh P w (L[i]).2 := by rw [Array.getD_eq_getD_getElem?, Array.getElem?_map, row_at h e1, Option.map_some, Option.getD_some]
      rw [List.filterMap_cons_some e1, List.map_cons, List.map_cons, ih fun j m => inR j (List.mem_cons_of_mem _ m), e2]
theorem isK_but {h h' : Heap} {v : Int} {b : Addr} (x : IsK P w h v b) {o : Obj} (ho : h.get? a = some o) (hd : o.data = .set es ep t) (sb : Heap.SameBut a h h') : IsK P w h' v b := by
  obtain ⟨u, its, n, g1, g2, g3, g4⟩ := x
  refine ⟨u, its, n, ?_, g2, g3, g4⟩
  rw [sb.2 b (fun e => by
    rw [e, ho] at g1
    cases g1
    rw [hd] at g3
    cases g3)]
  exact g1
/-- the table laid anew -/
theorem relay_new {o : Obj} (ho : s.heap.get? a = some o) (hx : o.ExactSet) (hd : o.data = .set es ep t) (hr : es.toList = L.map (rowK P w)) (T : TabOk t (L.map fun q => kh P w q.2)) (hm : L.length ≤ t.mask) (few : L.length < 60) {want M : Nat} (hw : SetTable.sizeAbove want = M + 1) (hM : MaskOk M) (hfit : L.length * 5 < M * 3) {Q : Unit → Shared → Prop}
    (hq : ∀ h' L2 es2 ep2 t2, Heap.SameBut a s.heap h' → SetS P w h' a L2 es2 ep2 t2 → L2.Perm L → Q () { s with heap := h' }) : wpAny (model P w) A (setRelay a want) Q E s := by
  have hsz := rows_size hr
  have hM128 : M ≤ 127 := by rcases hM with e | e | e <;> omega
  obtain ⟨t2, ord, g1, g2, g3, g4, _, _, _⟩ := relaid_ok t (hs := es.map (·.1)) (wanted := want) (M := M) (by omega) hM (by rw [Array.size_map, hsz]; omega)
  rw [Array.size_map, hsz] at g2
  obtain ⟨L2, p1, p2, p3⟩ := rows_order hr g2
  rw [← p3] at g3
  have r2 : (ord.filterMap (es[·]?)).toList = L2.map (rowK P w) := by
    rw [Array.toList_filterMap]
    exact p2
  have size2 : (ord.filterMap (es[·]?)).size = es.size := by rw [rows_size r2, p1.length_eq, hsz]
  rw [setRelay_eq]
  refine wpAny_bind (wpAny_setState_of ho hd (tab_fits T (by rw [List.length_map, hsz]) (by omega)) ?_)
  dsimp only
  refine wp_if_neg (by rw [sizeLine_eq, hw]; omega) ?_
  try refine wpAny_bind (wpAny_pure ?_)
  rw [g1]
  dsimp only
  refine wpAny_bind (wp_if_neg (by rw [size2]; simp) ?_)
  try refine wpAny_bind (wpAny_pure ?_)
  refine wpAny_pure ?_
  dsimp only
  refine wpAny_storeSet_of ho hd ?_ (by rw [size2, hsz, sizeLine_eq]; omega)
  exact hq _ L2 _ (ep + 1) t2 (Heap.SameBut.update ..) ⟨⟨_, store_at ho hd, ⟨hx.1, hx.2.1, hx.2.2⟩, rfl⟩, r2, g3, by rw [g4, p1.length_eq]; exact hfit, by rw [p1.length_eq]; exact few⟩ p1
theorem tab_plain {hs : List Int} (T : TabOk t hs) (b : Bool) : TabOk { t with plain := b } hs := ⟨T.ris, T.dm, T.sz, T.mok, T.bd, T.reach⟩
/-- one more -/
theorem add_new (S : SetS P w s.heap a L es ep t) (tup : ∀ q ∈ L, IsK P w s.heap q.2 q.1) {x : Addr} {v : Int} (isx : IsK P w s.heap v x) (new : ∀ q ∈ L, q.2 ≠ v) (hu : A.units < cLine) (few : L.length + 1 < 60) {Q : Bool → Shared → Prop}
    (hq : ∀ b h' L2 es2 ep2 t2, Heap.SameBut a s.heap h' → SetS P w h' a L2 es2 ep2 t2 → L2.Perm ((x, v) :: L) → Q b { s with heap := h' }) : wpAny (model P w) A (setAddHashed a (.ref x) (kh P w v)) Q E s := by
  obtain ⟨o, ho, hx, hd⟩ := S.here
  have hsz := rows_size S.rows
  have hroom := S.room
  unfold setAddHashed
  refine wpAny_holding ?_
  rw [show (100000 : Nat) = 99999 + 1 from rfl, setAddHashedIn_succ]
  refine wpAny_bind (wpAny_setState_of ho hd S.fit ?_)
  dsimp only
  refine wp_if_neg (by simp [byScan, Value.scannable]) ?_
  try refine wpAny_bind (wpAny_pure ?_)
  refine wpAny_bind (seek_new S tup isx new hu fun K k1 k2 => ?_)
  dsimp only
  refine wpAny_bind (wpAny_setState_of ho hd S.fit ?_)
  dsimp only
  obtain ⟨c1, c2, c3, c4, _, _, _, _, c9⟩ := S.tab.put k1 k2
  generalize way t.mask (kh P w v) K = j at c1 c2 c3 c4 c9 ⊢
  generalize ht : t.put j = tp at c1 c3 c4 c9 ⊢
  obtain ⟨t1, p⟩ := tp
  dsimp only at c1 c3 c4 c9 ⊢
  subst c1
  generalize SetTable.below t.place j = p at c2 c3 ⊢
  -- the entries
  have pm : (L.take p ++ (x, v) :: L.drop p).Perm ((x, v) :: L) := put_perm L p (x, v)
  have r1 : (SetTable.insertAt es p (kh P w v, Value.ref x)).toList = (L.take p ++ (x, v) :: L.drop p).map (rowK P w) := by
    rw [SetTable.toList_insertAt, S.rows, List.map_append, List.map_cons, List.map_take, List.map_drop]
  have T1 : TabOk t1 ((L.take p ++ (x, v) :: L.drop p).map fun q => kh P w q.2) := by
    rw [List.map_append, List.map_cons, List.map_take, List.map_drop]
    exact c3
  have len1 : (L.take p ++ (x, v) :: L.drop p).length = L.length + 1 := pm.length_eq
  have size1 := rows_size r1
  rw [len1] at size1
  generalize L.take p ++ (x, v) :: L.drop p = L1 at pm r1 T1 len1
  generalize SetTable.insertAt es p (kh P w v, Value.ref x) = es1 at r1 size1 ⊢
  -- what is done when it is known whether the value tells the hash
  have rest : ∀ t2 : SetTable, TabOk t2 (L1.map fun q => kh P w q.2) → t2.mask = t.mask → t2.fill = L.length + 1 →
      wpAny (model P w) A (storeSet a es1 t2) (fun _ z => wpAny (model P w) A (if (!false && t2.tooFull) = true then (do setRelay a (SetTable.grown (es.size + 1)); pure true) else pure true) Q E z) E s := fun t2 T2 m2 f2 => by
    refine wpAny_storeSet_of ho hd ?_ (by rw [size1, sizeLine_eq]; omega)
    have sb : Heap.SameBut a s.heap (s.heap.update a (Obj.putSet es1 t2)) := Heap.SameBut.update ..
    have ho2 := store_at (es' := es1) (t' := t2) ho hd
    generalize s.heap.update a (Obj.putSet es1 t2) = h1 at sb ho2 ⊢
    have full : t2.tooFull = decide ((L.length + 1) * 5 ≥ t.mask * 3) := by
      unfold SetTable.tooFull
      rw [f2, m2]
    by_cases hf : t2.tooFull = true
    · refine wp_if_pos (by simp [hf]) (wpAny_bind ?_)
      rw [full, decide_eq_true_eq] at hf
      rw [hsz]
      have cs : (t.mask = 7 ∧ L.length = 4) ∨ (t.mask = 31 ∧ L.length = 18) := by
        rcases S.tab.mok with e | e | e <;> rw [e] at hf hroom
        · exact .inl ⟨e, by omega⟩
        · exact .inr ⟨e, by omega⟩
        · omega
      have go : ∀ M, SetTable.sizeAbove (SetTable.grown (L.length + 1)) = M + 1 → MaskOk M → (L.length + 1) * 5 < M * 3 → wpAny (model P w) A (setRelay a (SetTable.grown (L.length + 1))) (fun _ z => wpAny (model P w) A (pure true) Q E z) E { s with heap := h1 } := fun M g1 g2 g3 => by
        refine relay_new (s := { s with heap := h1 }) ho2 ⟨hx.1, hx.2.1, hx.2.2⟩ rfl r1 T2 (by rw [len1, m2]; omega) (by omega) g1 g2 (by rw [len1]; exact g3) fun h2 L2 es2 ep2 t3 sb2 S2 pm2 => ?_
        exact wpAny_pure (hq true h2 L2 es2 ep2 t3 (sb.trans sb2) S2 (pm2.trans pm))
      rcases cs with ⟨_, e⟩ | ⟨_, e⟩
      · exact go 31 (by rw [e]; exact size_20) (.inr (.inl rfl)) (by omega)
      · exact go 127 (by rw [e]; exact size_76) (.inr (.inr rfl)) (by omega)
    · refine wp_if_neg (by simp [hf]) ?_
      rw [full, decide_eq_true_eq] at hf
      exact wpAny_pure (hq true h1 L1 es1 (ep + 1) t2 sb ⟨⟨_, ho2, ⟨hx.1, hx.2.1, hx.2.2⟩, rfl⟩, r1, T2, by rw [m2, len1]; omega, by omega⟩ pm)
  by_cases hp : t1.plain = true
  · refine wp_if_pos hp (wpAny_bind (isK_byText isx ?_))
    simp only [Bool.false_eq_true, if_false]
    exact wpAny_bind (rest { t1 with plain := false } (tab_plain T1 false) c4 (by rw [List.length_map] at c9; exact c9))
  · refine wp_if_neg hp (wpAny_bind (wpAny_pure ?_))
    simp only [if_true]
    exact wpAny_bind (rest t1 T1 c4 (by rw [List.length_map] at c9; exact c9))
end
end L2.Jw
set_option Elab.async false
set_option linter.all false
set_option maxRecDepth 100000
set_option maxHeartbeats 4000000
namespace L2.Jw
open PySem PySem.Spec PyProof.Rows
/-- a set as set() makes it -/
abbrev emptyS (w : World) : Obj := { cls := .type "set", dict := none, data := .set #[] 0 (.fresh 0 0 (!w.params.followText "set-order")) }
/-- the set of such pairs at a, as a tracked thing -/
def SetMO (P : Program) (w : World) (a : Addr) (L : List (Addr × Int)) : HO := .ext fun h => ∃ es ep t, SetS P w h a L es ep t
theorem setMO_ok {P : Program} {w : World} {H : Hp} {h : Heap} {a : Addr} {L : List (Addr × Int)} {es : Array (Int × Value)} {ep : Nat} {t : SetTable} (S : SetS P w h a L es ep t) : ObjOk P w H h a (SetMO P w a L) := by
  obtain ⟨o, ho, _⟩ := id S.here
  refine ⟨⟨es, ep, t, S⟩, ⟨o, ho⟩, ?_⟩
  rintro h1 h2 ⟨es', ep', t', S'⟩ k
  obtain ⟨o', ho', r'⟩ := id S'.here
  exact ⟨es', ep', t', ⟨o', k o' ho', r'⟩, S'.rows, S'.tab, S'.room, S'.few⟩
theorem setS_zero {P : Program} {w : World} {h : Heap} {a : Addr} (ho : h.get? a = some (emptyS w)) : SetS P w h a [] #[] 0 (.fresh 0 0 (!w.params.followText "set-order")) where
  here := ⟨_, ho, ⟨rfl, rfl, rfl⟩, rfl⟩
  rows := rfl
  tab := (setTR_fresh (P := P) ho).tab
  room := by show 0 < 7 * 3; decide
  few := by show 0 < 60; decide
abbrev TkAt (K : PySem.W.Frag) (H : Hp) (b : Addr) (v : Int) : Prop := SqT K H b [V.str "squeeze", V.int v]
section
variable {X : Cx} {pins : List (Addr × Obj)} {σ : L2.St} {H : Hp} {s : Shared}
theorem tk_isK (I : Inv X pins σ H s) {b : Addr} {v : Int} (h : TkAt X.K H b v) : IsK X.prog X.w s.heap v b := by
  obtain ⟨its, r, ⟨o, ho, hc, n, hd⟩, _⟩ := I.tuple h
  exact ⟨o, its.toArray, n, ho, hc, hd, by simpa using items_are (ks := tkK v) r⟩
/-- set.add -/
theorem addM (I : Inv X pins σ H s) {E : Value → Shared → Prop} {D b : Addr} {v : Int} {L : List (Addr × Int)} {Q : Value → Shared → Prop} (hu : X.A.units + 64 < cLine) (hD : H D = some (SetMO X.prog X.w D L)) (hb : TkAt X.K H b v) (hL : ∀ q ∈ L, TkAt X.K H q.1 q.2) (new : ∀ q ∈ L, q.2 ≠ v) (few : L.length + 1 < 60)
    (hq : ∀ L2 s', L2.Perm ((b, v) :: L) → Inv X pins σ (upd H D (SetMO X.prog X.w D L2)) s' → Q .none s') : wpAny (model X.prog X.w) X.A (call (.builtin "set.add") [.ref D, .ref b]) Q E s := by
  obtain ⟨es, ep, t, S⟩ := (I.hok D _ hD).1
  obtain ⟨o, ho, hx, hd⟩ := id S.here
  have ty : s.TypeIs (.ref D) "set" := ⟨o, ho, hx.1⟩
  refine wpAny_call_entry PySem.F.slot_set_add ty PySem.F.entry_set_add ?_ (PySem.F.args_set_add_2 _ _)
  have room : (X.A.in1).units < cLine := by show X.A.units + 1 < cLine; omega
  unfold Builtin.«set.add» Builtin.Frozenset.oneOther
  simp only [List.isEmpty_nil, bind_assoc]
  unfold Builtin.Frozenset.addrOf setAdd
  refine wpAny_bind (wpAny_pure ?_)
  try dsimp only
  refine wpAny_bind (wpAny_pure ?_)
  try dsimp only
  refine wpAny_bind (wpAny_holding (wpAny_bind (wpAny_pyHash_tuple (by first | exact room | (show X.A.units < cLine; omega)) (tk_isK I hb) ?_)))
  refine add_new (s := { s with toks := s.toks + ((tkK v).length + 1) }) S (fun q m => tk_isK I (hL q m)) (tk_isK I hb) new (by first | exact room | (show X.A.units < cLine; omega)) few fun bb h' L2 es2 ep2 t2 sb S2 pm => ?_
  show wpAny _ _ (ret Value.none) _ _ _
  refine wpAny_pure ⟨_, rfl, hq L2 _ pm (I.write (e := D) (t' := s.toks + ((tkK v).length + 1)) (by rw [hD]; trivial) (.inl rfl) (fun c u hc hu => (sb.2 c hc).trans hu) ?_ (setMO_ok S2))⟩
  obtain ⟨o2, ho2, _⟩ := id S2.here
  exact ⟨o2, ho2⟩
end
end L2.Jw
set_option Elab.async false
set_option linter.all false
set_option maxRecDepth 100000
set_option maxHeartbeats 4000000
namespace L2.Jw
open PySem PySem.Spec PyProof.Rows
section
variable {X : Cx}
/-- {e for target in iter}, e a new ("squeeze", t) each time; S0 the new set -/
def tScM (K : PySem.W.Frag) (P : Program) (w : World) (wi : TI) (g : TG) (te : TE) (vs : List Nat) : TE := fun σ H Q => wi σ H fun J H1 => ∀ D, H1 D = none → ∃ W : Nat → Nat → Hp → Prop, (∃ m, W 0 m (upd H1 D (SetMO P w D []))) ∧ ∀ i m H, W i m H →
  (J.stop i H ∧ Q (.ref D) H) ∨ (J.go i H ∧ ∃ Nx : Hp → Prop, (∀ H', Nx H' → ∃ m', m' < m ∧ W (i + 1) m' H') ∧ ∀ x H', J.yld i H x H' → g x (wipe σ vs) H' fun σ2 H2 => wipe σ2 vs = wipe σ vs ∧
    te σ2 H2 fun y H4 => ∃ (b : Addr) (v : Int) (L : List (Addr × Int)), y = .ref b ∧ H4 D = some (SetMO P w D L) ∧ TkAt K H4 b v ∧ (∀ q ∈ L, TkAt K H4 q.1 q.2) ∧ (∀ q ∈ L, q.2 ≠ v) ∧ L.length + 1 < 60 ∧ ∀ L2 : List (Addr × Int), L2.Perm ((b, v) :: L) → Nx (upd H4 D (SetMO P w D L2)))
theorem pe_scM {elt tg iter : Expr} {scope : Scope} {own : List (Str × Nat)} {pos : Pos} {wi : TI} {g : TG} {te : TE} (hc : X.calm = true) (hN : X.N.Nodup) (hu : X.A.units + 64 < cLine) (hi : PI X tg iter wi) (ok : BlkOk X.N X.env.scope scope own)
    (hg : ∀ (s : Shared) (H : Hp) (C : Addr) (cl : List (Str × Addr)) (fp : List Addr), PG (X.blk s H scope (compEnvC scope cl C X.env) fp) tg g)
    (he : ∀ (s : Shared) (H : Hp) (C : Addr) (cl : List (Str × Addr)) (fp : List Addr), PE (X.blk s H scope (compEnvC scope cl C X.env) fp) elt te) (hs : ∀ x, foldedSetIterable iter X.env x = pure x) : PE X (.SetComp elt [⟨tg, iter, [], 0⟩] scope pos) (tScM X.K X.prog X.w wi g te (own.map (·.2))) := by
  refine ⟨fun pins s σ H Q I h => ?_⟩
  rw [PpSet.eval_SetComp]
  have cellOf : ∀ y ∈ scope.names, y.2 = .free → ∃ c, X.env.cells.lookup y.1 = some c := fun y hy e => (ok.free y hy e).elim (fun k => I.ok.has _ (.inl k)) fun k => I.ok.has _ (.inr k)
  refine wpAny_comprehension_free (use := none) rfl hs (closure_ok cellOf) ok.kind (fun y hy e => by rw [ok.uniq y hy, e]) (thn (hi.run pins s σ H _ I h) fun _ s1 hx => thn hx fun _ s2 ⟨it, fp, tn, J, H2, eit, I2, T, st2, f2, q⟩ => ?_)
  subst eit
  refine PpSet.newSet_ok (newEnv_comp ?_)
  -- the new set at D, the block's names at C
  obtain ⟨D, hD⟩ : ∃ D, s2.heap.objs.size = D := ⟨_, rfl⟩
  have freeD : H2 D = none := I2.hok.fresh (Nat.le_of_eq hD)
  obtain ⟨W, ⟨m0, first⟩, turn⟩ := q D freeD
  obtain ⟨s3, es3⟩ : ∃ s3 : Shared, s3 = { s2 with heap := s2.heap.push (emptyS X.w) } := ⟨_, rfl⟩
  have old3 : ∀ {b : Addr} {o : Obj}, s2.heap.get? b = some o → s3.heap.get? b = some o := fun e => by rw [es3]; exact Heap.get?_push_of_some _ e
  have I3 : Inv X pins σ (upd H2 D (SetMO X.prog X.w D [])) s3 := by
    rw [es3]
    refine I2.laid (t' := s2.toks) (fun b o e => Heap.get?_push_of_some _ e) (Nat.le_of_eq hD) (setMO_ok (setS_zero ?_))
    rw [← hD]
    exact Heap.get?_push_size _ rfl
  have size3 : s3.heap.objs.size = s2.heap.objs.size + 1 := by rw [es3]; exact Heap.size_push ..
  have apart : ∀ b ∈ fp, FpOk X pins (upd H2 D (SetMO X.prog X.w D [])) b ∧ b < s3.heap.objs.size := fun b hb => by
    obtain ⟨o, e, _⟩ := T.obj _ _ st2 b hb
    have lt := Heap.lt_size e
    obtain ⟨g0, g1⟩ := f2 b hb
    refine ⟨⟨?_, g1⟩, by rw [size3]; exact Nat.lt_succ_of_lt lt⟩
    rw [upd_ne (by rw [← hD]; exact Nat.ne_of_lt lt)]
    exact g0
  have st3 : tn 0 s3.heap := T.keep _ _ _ st2 fun _ _ _ e => old3 e
  have I4 := block_start I3 ok hN apart
  have G := hg s3 (upd H2 D (SetMO X.prog X.w D [])) s3.heap.objs.size (cellsFrom (s3.heap.objs.size + 1) scope.names (cloFrom X.env.cells scope.names [])) fp
  have El := he s3 (upd H2 D (SetMO X.prog X.w D [])) s3.heap.objs.size (cellsFrom (s3.heap.objs.size + 1) scope.names (cloFrom X.env.cells scope.names [])) fp
  rw [show ({ s2 with heap := s2.heap.push { cls := .type "set", dict := none, data := .set #[] 0 (.fresh 0 0 (!X.w.params.followText "set-order")) } } : Shared) = s3 from es3.symm, hD]
  obtain ⟨C, hC⟩ : ∃ C, C = s3.heap.objs.size := ⟨_, rfl⟩
  rw [← hC] at I4 G El ⊢
  obtain ⟨ce, hce⟩ : ∃ ce, ce = compEnvC scope (cellsFrom (C + 1) scope.names (cloFrom X.env.cells scope.names [])) C X.env := ⟨_, rfl⟩
  have locC : ce.locals = C := by rw [hce]; rfl
  have none0 : ∀ b ∈ fp, upd H2 D (SetMO X.prog X.w D []) b = none := fun b hb => (apart b hb).1.1
  show codeAny _ _ (.compStart (.SetComp elt [⟨tg, iter, [], 0⟩] scope pos) 0 (.ref it) (.ref D) (compEnvC scope (cellsFrom (C + 1) scope.names (cloFrom X.env.cells scope.names [])) C X.env)) (compPost (model X.prog X.w) X.A X.xe none _ (.ref D) C) { s3 with heap := pushCells (s3.heap.push { cls := .type "dict", data := .dict #[] }) scope.names }
  rw [← hce] at I4 G El ⊢
  generalize upd H2 D (SetMO X.prog X.w D []) = H3 at I3 I4 G El first none0 apart
  generalize hs4 : ({ s3 with heap := pushCells (s3.heap.push { cls := .type "dict", data := .dict #[] }) scope.names } : Shared) = s4 at I4 ⊢
  have st4 : tn 0 s4.heap := T.keep _ _ _ st3 fun _ _ _ e => by rw [← hs4]; exact pushCells_keeps _ _ _ _ (Heap.get?_push_of_some _ e)
  have ours : ∀ {ρ : L2.St} {G : Hp} {z : Shared}, Inv (X.blk s3 H3 scope ce fp) [] ρ G z → (∀ b ∈ fp, G b = none) → ∀ b ∈ fp, FpOk (X.blk s3 H3 scope ce fp) [] G b := fun J0 n b hb => ⟨n b hb, (J0.ok.exf b hb).1, J0.ok.exfs b hb, .inl hb, fun x c e => (J0.ok.exf b hb).2 x c e, fun p hp => nomatch (show p ∈ ([] : List (Addr × Obj)) from hp)⟩
  have loop : codeAny (model X.prog X.w) X.A (.compLoop (.SetComp elt [⟨tg, iter, [], 0⟩] scope pos) 0 (.ref it) (.ref D) ce) (compPost (model X.prog X.w) X.A X.xe none (EP X pins σ Q) (.ref D) C) s4 := by
    refine PpSet.compLoopS_any (fun n z => ∃ i G, Inv (X.blk s3 H3 scope ce fp) [] (wipe σ (own.map (·.2))) G z ∧ tn i z.heap ∧ (∀ b ∈ fp, G b = none) ∧ W i n G) ?_ m0 ⟨0, H3, I4, st4, none0, first⟩
    rintro n s5 ⟨i, H5, I5, st5, n5, w5⟩
    rcases turn i n H5 w5 with ⟨stop, fin⟩ | ⟨go, Nx, next, step⟩
    · refine thnF (T.done (X.blk s3 H3 scope ce fp) rfl rfl rfl hc i [] s5 _ H5 (fun _ _ => False) I5 (ours I5 n5) st5 stop) fun r s6 ⟨hr, I6⟩ => ?_
      subst hr
      have back : Inv X pins σ H5 s6 := I3.call' (ch := fp) I6.os I6.base I6.hok I6.bare fun b hb =>
        let ⟨_, g1, _, g3, g4, g5⟩ := (apart b hb).1
        ⟨g3, g1, g4, g5⟩
      have goneC : H5 C = none := by
        have z : H5 ce.locals = none := I6.free
        rw [locC] at z
        exact z
      obtain ⟨mm, names, _⟩ := I6.loc
      have names' : s6.heap.Ns ce.locals mm := names
      rw [locC] at names'
      have offC := I3.fpOk (Nat.le_of_eq hC.symm) goneC
      obtain ⟨c0, c1, _, c3, c4, c5⟩ := offC
      exact ⟨mm, names', fun h' sb => ⟨.ref D, H5, back.turned (t' := s6.toks) (fun b o hb e => (sb.2 b hb).trans e) c0 c1 c3 c4 c5, rfl, fin⟩⟩
    · refine thnF (T.item (X.blk s3 H3 scope ce fp) rfl rfl rfl hc i [] s5 _ H5 (fun _ _ => False) I5 (ours I5 n5) st5 go) fun r s6 ⟨u, hr, h6⟩ => ?_
      subst hr
      refine thnF h6 fun _ s7 ⟨x, H7, I7, r7, y7, st7, n7⟩ => ?_
      have I7p := I7.pinned (ours I7 n7) (T.obj _ _ st7)
      refine thnF (G.run _ s7 _ H7 x u _ I7p r7 (step x H7 y7)) fun _ s8 ⟨σ8, H8, I8, hw8, q8⟩ => ?_
      refine wpAny_pure ?_
      simp only [if_true]
      refine thnF (El.run _ s8 σ8 H8 _ I8 q8) fun z s9 ⟨yv, H9, I9, r9, b, v, L, ey, hD9, hb9, hL9, new, few, nx⟩ => ?_
      subst ey
      obtain rfl : z = Value.ref b := r9
      refine addM (X := X.blk s3 H3 scope ce fp) I9 hu hD9 hb9 hL9 new few fun L2 s10 pm I10 => ?_
      obtain ⟨m', lt, w'⟩ := next _ (nx L2 pm)
      have still : ∀ b ∈ fp, ∀ o, s7.heap.get? b = some o → s10.heap.get? b = some o ∧ upd H9 D (SetMO X.prog X.w D L2) b = none := fun b hb o e =>
        let z := I10.pin (b, o) (List.mem_append_right _ (List.mem_append_right _ (mem_pinsAt hb e)))
        ⟨z.1, z.2.1⟩
      refine ⟨m', lt, i + 1, _, (I10.unpinned (pins := [])).weak (by rw [← hw8, wipe_length]) (fun j v e => ?_), T.keep _ _ _ st7 fun b hb o e => (still b hb o e).1, fun b hb => ?_, w'⟩
      · rw [← hw8] at e
        exact (wipe_some e).1
      · obtain ⟨o, e, _⟩ := T.obj _ _ st7 b hb
        exact (still b hb o e).2
  exact PpSet.codeAny_compStart_set loop (T.self X.A 0 _ _ _ st4 loop)
end
end L2.Jw
set_option Elab.async false
set_option linter.all false
set_option maxRecDepth 100000
set_option maxHeartbeats 4000000
namespace L2.Jw
open PySem PySem.Spec PyProof.Rows
/-! ### len({e for target in iter}): the e's are different ("squeeze", t) -/
def tScN (K : PySem.W.Frag) (P : Program) (w : World) (wi : TI) (g : TG) (te : TE) (vs : List Nat) : TE := fun σ H Q => tScM K P w wi g te vs σ H fun x H' => ∃ D L, x = V.ref D ∧ H' D = some (SetMO P w D L) ∧ Q (.int (L.length : Int)) H'
theorem dp_tk {K : PySem.W.Frag} {H : Hp} {y : V} {t : Int} (h : Dp K H y (tkD t)) : ∃ b, y = .ref b ∧ TkAt K H b t := by
  cases h with
  | tup hs ha =>
    cases ha with
    | cons h1 ha =>
      cases h1
      cases ha with
      | cons h2 ha =>
        cases h2
        cases ha
        exact ⟨_, rfl, hs⟩
/-- the rounds of such a comprehension -/
theorem sc_len {K : PySem.W.Frag} {P : Program} {w : World} {J : It} {G : Hp → Prop} {Y : Nat → Hp → V → Hp → Prop} {ts : List Int} (wk : Walk J ts.length G Y) {g : TG} {te : TE} {vs : List Nat} {σ : L2.St} {H1 : Hp} {D : Addr} {Qd : Hp → Prop} (hD : H1 D = none) (hG : ∀ H, Same H1 H → G H) (nd : ts.Nodup) (few : ts.length < 60)
    (hs : ∀ i x H H' (Cy : V → Hp → Prop), i < ts.length → Same H1 H → Y i H x H' → (∀ y H4 t, Same H H4 → ts[i]? = some t → Dp K H4 y (tkD t) → Cy y H4) → g x (wipe σ vs) H' fun σ2 H2 => wipe σ2 vs = wipe σ vs ∧ te σ2 H2 Cy) (hd : ∀ H L, Same H1 H → H D = some (SetMO P w D L) → L.length = ts.length → Qd H) :
    ∃ W : Nat → Nat → Hp → Prop, (∃ m, W 0 m (upd H1 D (SetMO P w D []))) ∧ ∀ i m H, W i m H →
      (J.stop i H ∧ Qd H) ∨ (J.go i H ∧ ∃ Nx : Hp → Prop, (∀ H', Nx H' → ∃ m', m' < m ∧ W (i + 1) m' H') ∧ ∀ x H', J.yld i H x H' → g x (wipe σ vs) H' fun σ2 H2 => wipe σ2 vs = wipe σ vs ∧
        te σ2 H2 fun y H4 => ∃ (b : Addr) (v : Int) (L : List (Addr × Int)), y = .ref b ∧ H4 D = some (SetMO P w D L) ∧ TkAt K H4 b v ∧ (∀ q ∈ L, TkAt K H4 q.1 q.2) ∧ (∀ q ∈ L, q.2 ≠ v) ∧ L.length + 1 < 60 ∧ ∀ L2 : List (Addr × Int), L2.Perm ((b, v) :: L) → Nx (upd H4 D (SetMO P w D L2))) := by
  refine ⟨fun i m H => m = ts.length - i ∧ i ≤ ts.length ∧ Same H1 H ∧ ∃ L, H D = some (SetMO P w D L) ∧ L.length = i ∧ (∀ q ∈ L, TkAt K H q.1 q.2) ∧ ∀ q ∈ L, q.2 ∈ ts.take i, ⟨ts.length, by simp, Nat.zero_le _, same_updN (Same.refl _) hD, [], upd_same, rfl, (fun q hq => by cases hq), fun q hq => by cases hq⟩, ?_⟩
  rintro i m H ⟨rfl, hi, e, L, hL, len, tk, mem⟩
  rcases Nat.lt_or_ge i ts.length with lt | ge
  · refine .inr ⟨wk.goes i H lt (hG H e), fun H' => i + 1 ≤ ts.length ∧ Same H1 H' ∧ ∃ L, H' D = some (SetMO P w D L) ∧ L.length = i + 1 ∧ (∀ q ∈ L, TkAt K H' q.1 q.2) ∧ ∀ q ∈ L, q.2 ∈ ts.take (i + 1), fun H' p => ⟨ts.length - (i + 1), by omega, rfl, p⟩, fun x H' y => ?_⟩
    refine hs i x H H' _ lt e (wk.yields i H x H' lt (hG H e) y) fun y H4 t e4 ht hy => ?_
    obtain ⟨b, rfl, hb⟩ := dp_tk hy
    have tk4 : ∀ q ∈ L, TkAt K H4 q.1 q.2 := fun q hq => same_sqT e4 (tk q hq)
    have hL4 := e4 _ _ hL
    refine ⟨b, t, L, rfl, hL4, hb, tk4, fun q hq z => ?_, by omega, fun L2 pm => ⟨lt, same_updO (e.trans e4) hD, L2, upd_same, by rw [pm.length_eq, List.length_cons, len], fun q hq => ?_, fun q hq => ?_⟩⟩
    · obtain ⟨j, hj, ej⟩ := List.getElem_of_mem (mem q hq)
      rw [List.length_take] at hj
      rw [List.getElem_take] at ej
      obtain ⟨_, et⟩ := List.getElem?_eq_some_iff.mp ht
      exact (List.pairwise_iff_getElem.mp (List.nodup_iff_pairwise_ne.mp nd) j i (by omega) lt (by omega)) (by rw [ej, et, z])
    · have keep : TKeep K H4 (upd H4 D (SetMO P w D L2)) := tkeep_upd hL4 (fun _ z => by cases z) fun _ _ z => by cases z
      rcases List.mem_cons.mp (pm.mem_iff.mp hq) with z | z
      · rw [z]; exact keep _ _ hb
      · exact keep _ _ (tk4 q z)
    · rw [List.take_succ, ht]
      rcases List.mem_cons.mp (pm.mem_iff.mp hq) with z | z
      · rw [z]; exact List.mem_append_right _ (by simp)
      · exact List.mem_append_left _ (mem q z)
  · obtain rfl : i = ts.length := Nat.le_antisymm hi ge
    exact .inl ⟨wk.stops H (hG H e), hd H L e hL len⟩
theorem pe_lenSC {X : Cx} {elt tg iter : Expr} {scope : Scope} {own : List (Str × Nat)} {p pos cpos : Pos} {wi : TI} {g : TG} {te : TE} (hc : X.calm = true) (hN : X.N.Nodup) (hl : Gl X "len") (hm : X.mg "len" = none) (hu : X.A.units + 64 < cLine) (hi : PI X tg iter wi) (ok : BlkOk X.N X.env.scope scope own)
    (hg : ∀ (s : Shared) (H : Hp) (C : Addr) (cl : List (Str × Addr)) (fp : List Addr), PG (X.blk s H scope (compEnvC scope cl C X.env) fp) tg g)
    (he : ∀ (s : Shared) (H : Hp) (C : Addr) (cl : List (Str × Addr)) (fp : List Addr), PE (X.blk s H scope (compEnvC scope cl C X.env) fp) elt te) (hs : ∀ x, foldedSetIterable iter X.env x = pure x := by intro _; rfl) :
    PE X (.Call (.Name "len" p) [.SetComp elt [⟨tg, iter, [], 0⟩] scope pos] [] cpos) (tScN X.K X.prog X.w wi g te (own.map (·.2))) := by
  refine ⟨fun pins s σ H Q I h => ?_⟩
  refine Call_ (ld_blt I hl hm PySem.boot_len (PyProof.Rows.callWith_builtin1 (PyProof.Rows.args_cons ?_ rfl) rfl rfl))
  refine thn ((pe_scM (pos := pos) hc hN hu hi ok hg he hs).run pins s σ H _ I h) fun v s1 ⟨x, H1, I1, r1, D, L, ex, hD, q⟩ => PyProof.Rows.args_nil ?_
  subst ex
  obtain rfl : v = Value.ref D := r1
  obtain ⟨es, ep, t, S⟩ := (I1.hok D _ hD).1
  obtain ⟨o, ho, hx, hd⟩ := id S.here
  have sz := rows_size S.rows
  have few := S.few
  refine call_len_set ho hx hd S.fit (by rw [sz]; omega) ⟨.int (L.length : Int), H1, I1.tok _, ⟨_, by rw [sz]⟩, q⟩
end L2.Jw
set_option Elab.async false
set_option linter.all false
set_option maxRecDepth 100000
set_option maxHeartbeats 4000000
namespace L2.Jw
open PySem PySem.Spec PyProof.Rows
section
variable {P : Program} {w : World} {K : PySem.W.Frag} {mg : Str → Option Value} {base : Heap} {c : Cs}
/-! ### instances called, told of their own fields -/
def tCallI (C : Addr) (sp : Sp) (E : XK) (tf : TE) (t : TA) : TE := fun σ H Q => tf σ H fun y H1 => ∃ a, y = V.ref a ∧ t σ H1 fun vs H2 => (∃ dx fs, H2 a = some (.ins C dx fs)) ∧ sp (V.ref a :: vs) H2 Q E
theorem pe_callI {X : Cx} {CX : CXT} {k : Nat} {C : Addr} {sp : Sp} {E : XK} {fe e : Expr} {es : List Expr} {tf : TE} {t : TA} {pos : Pos} (hf : PE X fe tf) (D : ∃ g, StX.CallO X.K C g ∧ FnR X.prog X.w X.K X.mg X.base CX k g sp) (hr : Room k X.A) (hx : Passes CX X E) (ha : PA X (e :: es) t)
    (ht : eval (.Call fe (e :: es) [] pos) X.env = (do callWith pos (← eval fe X.env) [] (backTo pos (starEach (e :: es) X.env)) (backToKw pos (keywordEach [] X.env))) := by rfl)
    (he : starEach (e :: es) X.env = (false, eval e X.env) :: starEach es X.env := by rfl) (hpl : (backTo pos (starEach es X.env)).any (·.1) = false := by rfl) : PE X (.Call fe (e :: es) [] pos) (tCallI C sp E tf t) := by
  obtain ⟨g, cc, F⟩ := D
  refine ⟨fun pins s σ H Q I h => ?_⟩
  refine Call_ (thn (hf.run pins s σ H _ I h) fun fv s1 ⟨y, H1, I1, ry, b, ey, q⟩ => ?_) ht
  cases ey
  obtain rfl : fv = Value.ref b := ry
  refine StX.callO_with (thn (ha.run pos pins s1 σ H1 _ I1 q) fun ws s2 ⟨vs, H2, I2, rw', hi, q2⟩ => ?_) he hpl
  have hb : StX.InsC X H2 b C := .inr hi
  obtain ⟨ob, od, J, hd⟩ := StX.insC_at I2 hb
  exact ⟨⟨C, ob, od, J, hd⟩, StX.run_callO cc F hr hx I2 hb rw' q2⟩
theorem pe_getI {X : Cx} {CX : CXT} {k : Nat} {C : Addr} {sp : Sp} {E : XK} {a b : Expr} {ta tb : TE} {pos : Pos} (D : ∃ g, GetO X.K C g ∧ FnR X.prog X.w X.K X.mg X.base CX k g sp) (hr : Room (k + 1) X.A) (hx : Passes CX X E) (ha : PE X a ta) (hb : PE X b tb)
    (hsl : ∀ o i, subscripted b true o i = runValue (.builtin "lifetime.subscript" ⟨[o, i], []⟩) := by intro _ _; rfl) : PE X (.Subscript a b pos) (tGetO C sp E ta tb) := by
  obtain ⟨g, cc, F⟩ := D
  exact pe_getO cc F hr hx ha hb hsl
theorem inV_mem {s : Str} {ws : List V} (h : V.str s ∈ ws) : inV (V.str s) ws = true := by
  unfold inV
  rw [List.any_eq_true]
  exact ⟨_, h, by simp [eqV]⟩
theorem tyx_part (T : Tx K mg c) {H : Hp} {a dx : Addr} {fs : List (Str × V)} (h : H a = some (.ins c.Pa dx fs)) : TyX K H (.ref a) (.ref c.Pa) := .base (.ins h T.cl_Pa T.isPa T.isPh T.isPt T.isPm)
theorem kit_self {C : Addr} : PySem.W.kitOne K (.ref C) (.ref C) = some true := by
  unfold PySem.W.kitOne
  rw [if_pos (by simp)]
/-! ### the parts -/
structure PartsAt (K : PySem.W.Frag) (c : Cs) (H : Hp) (pa : Addr) (N : Int) (pds : List PartD) : Prop where
  ob : ∃ vs, H pa = some (.lst vs) ∧ Paired (fun (pd : PartD) (v : V) => ∃ a, v = .ref a ∧ PartAt K c H a N pd) pds vs
theorem PartsAt.same {H H' : Hp} {pa : Addr} {N : Int} {pds : List PartD} (h : PartsAt K c H pa N pds) (e : Same H H') : PartsAt K c H' pa N pds := by
  obtain ⟨vs, h1, h2⟩ := h.ob
  exact ⟨vs, e _ _ h1, Paired.mapP h2 fun _ _ ⟨a, b, d⟩ => ⟨a, b, d.same e⟩⟩
theorem paired_get {α β : Type} {F : α → β → Prop} : ∀ {xs : List α} {ys : List β}, Paired F xs ys → ∀ {i : Nat} {y : β}, ys[i]? = some y → ∃ x, xs[i]? = some x ∧ F x y
  | _, _, .nil, i, y, h => by cases h
  | _, _, .cons a t, 0, y, h => by cases h; exact ⟨_, rfl, a⟩
  | _, _, .cons a t, i + 1, y, h => paired_get t h
theorem paired_get' {α β : Type} {F : α → β → Prop} : ∀ {xs : List α} {ys : List β}, Paired F xs ys → ∀ {i : Nat} {x : α}, xs[i]? = some x → ∃ y, ys[i]? = some y ∧ F x y
  | _, _, .nil, i, y, h => by cases h
  | _, _, .cons a t, 0, y, h => by cases h; exact ⟨_, rfl, a⟩
  | _, _, .cons a t, i + 1, y, h => paired_get' t h
/-! ### check_kinds -/
def spCheckKinds (K : PySem.W.Frag) (c : Cs) : Sp := fun vs H Q _ => ∃ (pa : Addr) (N : Int) (pds : List PartD), vs = [.ref pa, .int 1, .int 3] ∧ PartsAt K c H pa N pds ∧ 1 ≤ pds.length ∧ pds.length ≤ 3 ∧ ∀ H', Same H H' → Q .non H'
abbrev s_check_kinds : Stmt := top 45
theorem c_check_kinds : FnScope ["parts", "least", "most", "at", "part"] ["parts", "least", "most"] (defScope s_check_kinds) := ⟨rfl, rfl, rfl, by decide +kernel, rfl, by decide +kernel, by decide +kernel⟩
theorem b_check_kinds : Bnd0 "check_kinds" "check_kinds" s_check_kinds ["parts", "least", "most"] := fun _ _ _ _ _ _ us hl => match us, hl with | [_, _, _], _ => rfl
theorem d_check_kinds (T : Tx K mg c) : Df P w K mg base CX0 1 "check_kinds" (spCheckKinds K c) := by
  refine df_0 T.D_check_kinds c_check_kinds b_check_kinds (fun vs H Q E h => ?_) fun f cdv A outer s H vs Q E hr h => ?_
  · obtain ⟨pa, N, pds, rfl, _⟩ := h
    rfl
  · obtain ⟨pa, N, pds, rfl, ⟨vs, hpa, hvs⟩, l1, l3, q⟩ := h
    have hl : vs.length = pds.length := (Paired.len hvs).symm
    refine ⟨_, (pss_cons (ps_if (PW.pt (pw_or (pt_not (pt_val (pe_callB call_isiT (by rfl) T.isinstance (by decide +kernel) (pa_cons (pv 0) (pa_cons (pe_tup (pa_cons (pe_tyN "list" (by rfl) T.list (by decide +kernel)) (pa_cons (pe_tyN "tuple" (by rfl) T.tuple (by decide +kernel)) pa_nil))) pa_nil))))) (pw_or1 (pt_not (pt_chain op_le op_le (pv 1) (pe_callB call_len_seq (by rfl) T.len (by decide +kernel) (pa_cons (pv 0) pa_nil)) (pv 2)))))) (pss_one ps_never) pss_nil)
      (pss_one (ps_for PassesOwn.never rfl (pi_enum (by rfl) T.enumerate (pa_cons (pv 0) pa_nil)) (pg_tup rfl (pgs_cons (pg_name (i := 3) c_check_kinds.nd rfl (Or.inl rfl)) (pgs_cons (pg_name (i := 4) c_check_kinds.nd rfl (Or.inl rfl)) pgs_nil)))
      (pss_one (ps_if (PW.pt (pw_or (pt_not (pt_val (pe_callB call_isi (by rfl) T.isinstance (by decide +kernel) (pa_cons (pv 4) (pa_cons (pe_gR rfl T.mg_Pa) pa_nil))))) (pw_or1 (pt_cmpR op_ne (pe_fld (pv 4) rfl) (pe_fld (pe_ix (r := rIxL K) ix_list (pv 0) pe_int (fun _ _ => rfl)) rfl) (nomark _))))) (pss_one ps_never) pss_nil))))), ?_⟩
    refine ⟨_, rfl, (by show 2 ≤ sizeLine; decide), fun p hp => ?_⟩
    have e : Same H (upd H p (.tup [.ty "list", .ty "tuple"])) := same_new hp
    refine ⟨_, p, _, _, _, true, rfl, upd_same, .cons (.ty _) (.cons (.ty _) .nil), tyx_lst (e _ _ hpa), kitAny_cons (b := true) (kit_ty (by decide +kernel)) (fun z => by cases z) (fun _ => rfl), true, rfl, iteF ?_⟩
    refine ⟨_, rfl, _, rfl, pa, _, rfl, .inl (SqL.of (e _ _ hpa)), _, _, rfl, rfl, true, blT (by rw [hl]; omega), iteT ⟨_, rfl, _, _, rfl, rfl, _, rfl, inD (by rw [hl]; omega) ?_⟩⟩
    refine ⟨_, rfl, pa, _, rfl, SqL.of (e _ _ hpa), for_it walk_enum (fun i σ H2 => Same H H2 ∧ ∃ (x3 x4 : Option V), σ = [some (.ref pa), some (.int 1), some (.int 3), x3, x4])
      ⟨e, none, none, rfl⟩ (fun i σ H2 _ z => SqL.of (z.1 _ _ hpa)) ?_ ?_⟩
    · rintro i x σ H2 H3 hi ⟨e2, x3, x4, rfl⟩ ⟨t, x0, y, rfl, ht, rfl, hx0, hy⟩
      cases hx0
      obtain ⟨pd, hpd, a, rfl, hpart⟩ := paired_get hvs hy
      obtain ⟨pd0, hpd0⟩ : ∃ pd0, pds[0]? = some pd0 := ⟨_, List.getElem?_eq_getElem (by omega)⟩
      obtain ⟨y0, hy0, a0, rfl, hpart0⟩ := paired_get' hvs hpd0
      have e3 := same_updN (o := .tup [.int (i : Nat), .ref a]) e2 ht
      obtain ⟨dx, q1, td, kvs, g1, _⟩ := (hpart.same e3).ob
      obtain ⟨dx0, q2, td0, kvs0, g2, _⟩ := (hpart0.same e3).ob
      refine ⟨t, _, rfl, SqT.of upd_same, rfl, _, _, rfl, _, _, rfl, rfl, ?_⟩
      refine ⟨_, rfl, .ref a, .ref c.Pa, _, _, true, rfl, .own _, tyx_part T g1, kit_self, true, rfl, iteF ?_⟩
      exact ⟨_, rfl, a, c.Pa, dx, _, _, rfl, g1, T.cl_Pa, T.n_Pa_around, part_around, _, rfl, pa, _, _, _, rfl, rfl, SqL.of (e3 _ _ hpa), (by exact atI_nat (j := 0) hy0), a0, c.Pa, dx0, _, _, rfl, g2, T.cl_Pa, T.n_Pa_around, part_around, rfl, _, rfl, inD rfl ⟨e3, _, _, rfl⟩⟩
    · rintro σ H2 ⟨e2, x3, x4, rfl⟩
      exact q H2 e2
/-! ### check_shown -/
def spCheckShown (K : PySem.W.Frag) (c : Cs) : Sp := fun vs H Q _ => ∃ (pa : Addr) (N : Int) (pds : List PartD), vs = [.ref pa] ∧ PartsAt K c H pa N pds ∧ ∀ H', Same H H' → Q .non H'
abbrev s_check_shown : Stmt := top 49
theorem c_check_shown : FnScope ["parts", "at", "part"] ["parts"] (defScope s_check_shown) := ⟨rfl, rfl, rfl, by decide +kernel, rfl, by decide +kernel, by decide +kernel⟩
theorem b_check_shown : Bnd0 "check_shown" "check_shown" s_check_shown ["parts"] := fun _ _ _ _ _ _ us hl => match us, hl with | [_], _ => rfl
theorem d_check_shown (T : Tx K mg c) : Df P w K mg base CX0 3 "check_shown" (spCheckShown K c) := by
  refine df_0 T.D_check_shown c_check_shown b_check_shown (fun vs H Q E h => ?_) fun f cdv A outer s H vs Q E hr h => ?_
  · obtain ⟨pa, N, pds, rfl, _⟩ := h
    rfl
  · obtain ⟨pa, N, pds, rfl, ⟨vs, hpa, hvs⟩, q⟩ := h
    refine ⟨_, (pss_one (ps_for PassesOwn.never rfl (pi_enum (by rfl) T.enumerate (pa_cons (pv 0) pa_nil)) (pg_tup rfl (pgs_cons (pg_name (i := 1) c_check_shown.nd rfl (Or.inl rfl)) (pgs_cons (pg_name (i := 2) c_check_shown.nd rfl (Or.inl rfl)) pgs_nil)))
      (pss_one (ps_if (PW.pt (pw_or (pt_cmpR op_notIn_seq pe_str (pe_P (pv 2) T.cl_Pa (p_Part_words T) (hr.mono (by decide))) (by rfl)) (pw_or1 (pt_cmpR op_isN (pe_P (pv 2) T.cl_Pa (p_Part_widths T) (hr.mono (by decide))) pe_non (nomark _))))) (pss_one ps_never) pss_nil)))), ?_⟩
    refine ⟨_, rfl, pa, _, rfl, SqL.of hpa, for_it walk_enum (fun i σ H2 => Same H H2 ∧ ∃ (x3 x4 : Option V), σ = [some (.ref pa), x3, x4])
      ⟨Same.refl _, none, none, rfl⟩ (fun i σ H2 _ z => SqL.of (z.1 _ _ hpa)) ?_ ?_⟩
    · rintro i x σ H2 H3 hi ⟨e2, x3, x4, rfl⟩ ⟨t, x0, y, rfl, ht, rfl, hx0, hy⟩
      cases hx0
      obtain ⟨pd, hpd, a, rfl, hpart⟩ := paired_get hvs hy
      have e3 := same_updN (o := .tup [.int (i : Nat), .ref a]) e2 ht
      have hp3 := hpart.same e3
      obtain ⟨dx, q1, td, kvs, g1, _⟩ := hp3.ob
      refine ⟨t, _, rfl, SqT.of upd_same, rfl, _, _, rfl, _, _, rfl, rfl, ?_⟩
      refine ⟨_, rfl, a, dx, _, rfl, g1, a, N, pd, rfl, hp3, fun H4 l ws e4 hl hm hf => ?_⟩
      refine ⟨l, ws, rfl, .inl (SqL.of hl), rfl, (List.all_eq_true.mpr hf), _, rfl, ?_⟩
      rw [inV_mem hm]
      refine iteF ?_
      refine ⟨_, rfl, a, dx, _, rfl, e4 _ _ g1, a, N, pd, rfl, hp3.same e4, fun l2 hl2 => ⟨rfl, _, rfl, itN (by intro z; cases z) ⟨e3.trans (e4.trans (same_new hl2)), _, _, rfl⟩⟩⟩
    · rintro σ H2 ⟨e2, x3, x4, rfl⟩
      exact q H2 e2
end
end L2.Jw
set_option Elab.async false
set_option linter.all false
set_option maxRecDepth 100000
set_option maxHeartbeats 4000000
namespace L2.Jw
open PySem PySem.Spec PyProof.Rows
section
variable {P : Program} {w : World} {K : PySem.W.Frag} {mg : Str → Option Value} {base : Heap} {c : Cs}
def kdF (N : Int) (d : PartD) : Kd := ⟨(List.range N.toNat).map fun x : Nat => landT N d.rows x, d.gap, spanD d⟩
def wdF (N : Int) (pds : List PartD) : Wd := ⟨N, pds.map (kdF N)⟩
def jawsFs (N : Int) (l g s : Addr) : List (Str × V) := [("ring", .int N), ("lands", .ref l), ("gaps", .ref g), ("spans", .ref s)]
theorem jaws_ring {N : Int} {l g s : Addr} : (jawsFs N l g s).lookup ("ring" : Str) = some (.int N) := by unfold jawsFs; kernel_rfl
theorem jaws_lands {N : Int} {l g s : Addr} : (jawsFs N l g s).lookup ("lands" : Str) = some (.ref l) := by unfold jawsFs; kernel_rfl
theorem jaws_gaps {N : Int} {l g s : Addr} : (jawsFs N l g s).lookup ("gaps" : Str) = some (.ref g) := by unfold jawsFs; kernel_rfl
theorem jaws_spans {N : Int} {l g s : Addr} : (jawsFs N l g s).lookup ("spans" : Str) = some (.ref s) := by unfold jawsFs; kernel_rfl
/-- a list of lists of numbers -/
def LsLs (H : Hp) (l : Addr) (xss : List (List Int)) : Prop := ∃ vs, H l = some (.lst vs) ∧ Paired (fun (xs : List Int) (v : V) => ∃ q, v = .ref q ∧ H q = some (.lst (xs.map V.int))) xss vs
theorem LsLs.same {H H' : Hp} {l : Addr} {xss : List (List Int)} (h : LsLs H l xss) (e : Same H H') : LsLs H' l xss := by
  obtain ⟨vs, h1, h2⟩ := h
  exact ⟨vs, e _ _ h1, Paired.mapP h2 fun _ _ ⟨q, a, b⟩ => ⟨q, a, e _ _ b⟩⟩
structure JawsAt (c : Cs) (H : Hp) (a : Addr) (W : Wd) : Prop where
  ob : ∃ dx l g s, H a = some (.ins c.Ja dx (jawsFs W.N l g s)) ∧ LsLs H l (W.ks.map Kd.land) ∧ LsLs H g (W.ks.map Kd.gap) ∧ H s = some (.lst ((W.ks.map Kd.span).map V.int))
theorem JawsAt.same {H H' : Hp} {a : Addr} {W : Wd} (h : JawsAt c H a W) (e : Same H H') : JawsAt c H' a W := by
  obtain ⟨dx, l, g, s, h1, h2, h3, h4⟩ := h.ob
  exact ⟨dx, l, g, s, e _ _ h1, h2.same e, h3.same e, e _ _ h4⟩
/-! ### Jaws(parts) -/
def spJawsI (K : PySem.W.Frag) (c : Cs) : Sp := fun vs H Q _ => ∃ (p dx pa : Addr) (N : Int) (pds : List PartD), vs = [.ref p, .ref pa] ∧ H p = some (.ins c.Ja dx []) ∧ PartsAt K c H pa N pds ∧ 1 ≤ pds.length ∧ pds.length ≤ 3 ∧ (∀ d ∈ pds, PartOk N d) ∧
  ∀ H', But p H H' → JawsAt c H' p (wdF N pds) → Q .non H'
theorem PartAt.ne {p C dx t : Addr} {H : Hp} {N : Int} {d : PartD} (h : PartAt K c H t N d) (hp : H p = some (.ins C dx [])) : t ≠ p := by
  obtain ⟨d2, q, td, kvs, h1, _⟩ := h.ob
  intro z
  rw [z, hp] at h1
  have := (HO.ins.inj (Option.some.inj h1)).2.2
  unfold partFs at this
  cases this
theorem PartAt.butI {p C dx t : Addr} {H H' : Hp} {N : Int} {d : PartD} (h : PartAt K c H t N d) (e : But p H H') (hp : H p = some (.ins C dx [])) : PartAt K c H' t N d := by
  have ne := h.ne hp
  obtain ⟨d2, q, td, kvs, h1, h2, h3, t1, h4, h5⟩ := h.ob
  refine ⟨d2, q, td, kvs, e _ _ h1 ne, butI_tkeep e hp _ _ h2, e _ _ h3 (ne_of h3 hp (by intro z; cases z)), t1, h4.butI e hp (h4.ne hp), ?_⟩
  cases hd : d.push with
  | none => rw [hd] at h5; exact h5
  | some pp =>
    rw [hd] at h5
    obtain ⟨t2, r2, g1, g2⟩ := h5
    exact ⟨t2, r2, g1.butI e hp (g1.ne hp), g2⟩
abbrev s_Jaws___init__ : Stmt := inC 50 0
theorem c_Jaws___init__ : FnScope ["self", "parts", "part", "turning", "x"] ["self", "parts"] (defScope s_Jaws___init__) := ⟨rfl, rfl, rfl, by decide +kernel, rfl, by decide +kernel, by decide +kernel⟩
theorem b_Jaws___init__ : Bnd0 "__init__" "Jaws.__init__" s_Jaws___init__ ["self", "parts"] := fun _ _ _ _ _ _ us hl => match us, hl with | [_, _], _ => rfl
theorem m_Jaws (T : Tx K mg c) : Mkr P w K mg base CX0 5 "Jaws" c.Ja (spJawsI K c) := by
  refine mk_0 T.mg_Ja T.I_Ja c_Jaws___init__ b_Jaws___init__ (fun vs H Q E h => ?_) fun f cdv A outer s H vs Q E hr h => ?_
  · obtain ⟨p, dx, pa, N, pds, rfl, _⟩ := h
    rfl
  · obtain ⟨p, dx, pa, N, pds, rfl, hp, ⟨vs, hpa, hvs⟩, l1, l3, hok, q⟩ := h
    have hl : vs.length = pds.length := (Paired.len hvs).symm
    refine ⟨_, (pss_cons (ps_fld (pv 0) (pe_fld (pe_ix (r := rIxL K) ix_list (pv 1) pe_int (fun _ _ => rfl)) rfl) rfl)
      (pss_cons (ps_fld (pv 0) (pe_lst pa_nil) rfl)
      (pss_cons (ps_fld (pv 0) (pe_lst pa_nil) rfl)
      (pss_cons (ps_fld (pv 0) (pe_lst pa_nil) rfl)
      (pss_one (ps_for PassesOwn.never rfl (pi_list (pv 1)) (pg_name (i := 2) c_Jaws___init__.nd rfl (Or.inl rfl))
      (pss_cons (ps_set (i := 3) c_Jaws___init__.nd rfl (Or.inr rfl) (pe_getI (g_Part T) (hr.mono (by decide)) pass0 (pv 2) pe_str))
      (pss_cons (ps_expr (pe_bm PySem.F.plainAttrs_list PySem.F.slot_list_append PySem.F.type_list_append mt_append (pe_fld (pv 0) rfl) (pa_cons (pe_lc (own := [("x", 4)]) (g := (gName 4)) (tt := tYes) (by rfl) c_Jaws___init__.nd (pi_range1 (by rfl) T.range (pa_cons (pe_fld (pv 2) rfl) pa_nil)) (blkOk_by (own := [("x", 4)]) (N := ["self", "parts", "part", "turning", "x"]) (sc := defScope s_Jaws___init__) (by decide +kernel)) (fun _ _ _ _ _ => (pg_name (i := 4) c_Jaws___init__.nd rfl (Or.inl rfl))) (fun _ _ _ _ _ => pts_nil) (fun _ _ _ _ _ => (show PE _ _ (tCallI c.Tu (spCallT K c) E0 (tVar 3) (tCons (tVar 4) tNil)) from pe_callI (pv 3) (k_Turning T) (hr.mono (by decide)) pass0 (pa_cons (pv 4) pa_nil)))) pa_nil)))
      (pss_cons (ps_expr (pe_bm PySem.F.plainAttrs_list PySem.F.slot_list_append PySem.F.type_list_append mt_append (pe_fld (pv 0) rfl) (pa_cons (pe_P (pv 2) T.cl_Pa (p_Part_widths T) (hr.mono (by decide))) pa_nil)))
      (pss_one (ps_expr (pe_bm PySem.F.plainAttrs_list PySem.F.slot_list_append PySem.F.type_list_append mt_append (pe_fld (pv 0) rfl) (pa_cons (pe_P (pv 2) T.cl_Pa (p_Part_period T) (hr.mono (by decide))) pa_nil))))))))))))), ?_⟩
    obtain ⟨pd0, hpd0⟩ : ∃ pd0, pds[0]? = some pd0 := ⟨_, List.getElem?_eq_getElem (by omega)⟩
    obtain ⟨y0, hy0, a0, rfl, hpart0⟩ := paired_get' hvs hpd0
    obtain ⟨dx0, q2, td0, kvs0, g2, _⟩ := hpart0.ob
    have pap : pa ≠ p := ne_of hpa hp (by intro z; cases z)
    -- ring, lands, gaps, spans
    refine ⟨_, rfl, pa, _, _, _, rfl, rfl, SqL.of hpa, (by exact atI_nat (j := 0) hy0), a0, c.Pa, dx0, _, _, rfl, g2, T.cl_Pa, T.n_Pa_around, part_around, _, rfl, p, c.Ja, dx, _, rfl, hp, T.cl_Ja, T.n_Ja_ring, (by show 0 < 1000; decide), ?_⟩
    refine ⟨(by show 0 ≤ sizeLine; decide), fun l hl0 => ?_⟩
    have pl : p ≠ l := ne_of_none upd_same hl0
    refine ⟨_, rfl, p, c.Ja, dx, _, rfl, by rw [upd_ne pl]; exact upd_same, T.cl_Ja, T.n_Ja_lands, (by show 1 < 1000; decide), ?_⟩
    refine ⟨(by show 0 ≤ sizeLine; decide), fun g hg0 => ?_⟩
    have pg : p ≠ g := ne_of_none upd_same hg0
    refine ⟨_, rfl, p, c.Ja, dx, _, rfl, by rw [upd_ne pg]; exact upd_same, T.cl_Ja, T.n_Ja_gaps, (by show 2 < 1000; decide), ?_⟩
    refine ⟨(by show 0 ≤ sizeLine; decide), fun sp hs0 => ?_⟩
    have ps : p ≠ sp := ne_of_none upd_same hs0
    refine ⟨_, rfl, p, c.Ja, dx, _, rfl, by rw [upd_ne ps]; exact upd_same, T.cl_Ja, T.n_Ja_spans, (by show 3 < 1000; decide), ?_⟩
    have gl : g ≠ l := fun z => by rw [z, upd_ne pl.symm, upd_same] at hg0; cases hg0
    have sg : sp ≠ g := fun z => by rw [z, upd_ne pg.symm, upd_same] at hs0; cases hs0
    have sl : sp ≠ l := fun z => by rw [z, upd_ne pl.symm, upd_ne gl.symm, upd_ne pl.symm, upd_same] at hs0; cases hs0
    have lN : H l = none := by rw [upd_ne pl.symm] at hl0; exact hl0
    have gN : H g = none := by rw [upd_ne pg.symm, upd_ne gl, upd_ne pg.symm] at hg0; exact hg0
    have sN : H sp = none := by rw [upd_ne ps.symm, upd_ne sg, upd_ne ps.symm, upd_ne sl, upd_ne ps.symm] at hs0; exact hs0
    obtain ⟨H1, hH1⟩ : ∃ H1, (upd (upd (upd (upd (upd (upd (upd H p (.ins c.Ja dx (putF "ring" (.int N) []))) l (.lst [])) p (.ins c.Ja dx (putF "lands" (.ref l) (putF "ring" (.int N) [])))) g (.lst [])) p (.ins c.Ja dx (putF "gaps" (.ref g) (putF "lands" (.ref l) (putF "ring" (.int N) []))))) sp (.lst [])) p (.ins c.Ja dx (putF "spans" (.ref sp) (putF "gaps" (.ref g) (putF "lands" (.ref l) (putF "ring" (.int N) [])))))) = H1 := ⟨_, rfl⟩
    have b1 : But p H H1 := fun x o e hx => by
      rw [← hH1, upd_ne hx, upd_ne (ne_of_none e sN), upd_ne hx, upd_ne (ne_of_none e gN), upd_ne hx, upd_ne (ne_of_none e lN), upd_ne hx]
      exact e
    have hp1 : H1 p = some (.ins c.Ja dx (jawsFs N l g sp)) := by
      rw [← hH1, upd_same]
      exact congrArg (fun l => some (HO.ins c.Ja dx l)) (by unfold jawsFs; kernel_rfl)
    have hl1 : H1 l = some (.lst []) := by rw [← hH1, upd_ne pl.symm, upd_ne sl.symm, upd_ne pl.symm, upd_ne gl.symm, upd_ne pl.symm, upd_same]
    have hg1 : H1 g = some (.lst []) := by rw [← hH1, upd_ne pg.symm, upd_ne sg.symm, upd_ne pg.symm, upd_same]
    have hs1 : H1 sp = some (.lst []) := by rw [← hH1, upd_ne ps.symm, upd_same]
    rw [hH1]
    have frT : ∀ {H2 : Hp}, But p H H2 → TKeep K H H2 := fun {H2} b => butI_tkeep b hp
    refine ⟨_, rfl, pa, rfl, ⟨vs, SqL.of (b1 _ _ hpa pap)⟩, for_it walk_list (fun i σ H2 => ∃ (ls gs : List V) (x2 x3 x4 : Option V), σ = [some (.ref p), some (.ref pa), x2, x3, x4] ∧ But p H H2 ∧ H2 p = some (.ins c.Ja dx (jawsFs N l g sp)) ∧ H2 l = some (.lst ls) ∧ H2 g = some (.lst gs) ∧
        Paired (fun (xs : List Int) (v : V) => ∃ q, v = .ref q ∧ H2 q = some (.lst (xs.map V.int)) ∧ q ≠ l ∧ q ≠ g ∧ q ≠ sp) ((pds.take i).map fun d => (kdF N d).land) ls ∧ Paired (fun (xs : List Int) (v : V) => ∃ q, v = .ref q ∧ H2 q = some (.lst (xs.map V.int)) ∧ q ≠ l ∧ q ≠ g ∧ q ≠ sp) ((pds.take i).map fun d => (kdF N d).gap) gs ∧
        H2 sp = some (.lst (((pds.take i).map fun d => (kdF N d).span).map V.int)))
      ⟨[], [], none, none, none, rfl, b1, hp1, hl1, hg1, .nil, .nil, hs1⟩ (fun i σ H2 _ ⟨_, _, _, _, _, _, h, _⟩ => SqL.of (h _ _ hpa pap)) ?_ ?_⟩
    · rintro i x σ H2' H2 hi ⟨ls, gs, x2, x3, x4, rfl, b2, hp2, hl2, hg2, hls, hgs, hs2⟩ ⟨rfl, hx⟩
      obtain ⟨pd, hpd, a, rfl, hpart⟩ := paired_get hvs hx
      have pok := hok pd (List.mem_of_getElem? hpd)
      have hpart2 := hpart.butI b2 hp
      obtain ⟨dxa, qa, tda, kvsa, ga, _⟩ := hpart2.ob
      have hi3 : i < 3 := by omega
      have htk : pds.take (i + 1) = pds.take i ++ [pd] := by rw [List.take_succ, hpd]; rfl
      have lsl : ls.length = i := by have := Paired.len hls; rw [List.length_map, List.length_take] at this; omega
      have gsl : gs.length = i := by have := Paired.len hgs; rw [List.length_map, List.length_take] at this; omega
      refine ⟨_, rfl, a, dxa, _, rfl, ga, a, N, pd, rfl, hpart2, fun t ht => ?_⟩
      -- the lands
      have hN := pok.n2
      have hN48 := pok.n48
      refine ⟨_, rfl, p, c.Ja, dx, _, _, rfl, hp2, T.cl_Ja, T.n_Ja_lands, jaws_lands, .inl ⟨rfl, _, SqL.of hl2⟩, ?_⟩
      refine ⟨_, rfl, a, c.Pa, dxa, _, _, rfl, ga, T.cl_Pa, T.n_Pa_around, part_around, N, rfl, by omega, by omega, fun D hD => lc_mp (walk_range (lo := 0)) (fun j y H => y = V.int (landT N pd.rows (j : Nat))) hD (fun _ _ => True.intro) (by omega) (fun _ _ _ _ _ _ _ h => h) ?_ ?_⟩
      · rintro j y H3 H3' Cy Cn hj e3 ⟨rfl, rfl⟩ hCy
        have ht3 := ht.same e3
        obtain ⟨dt, qt, gt, _⟩ := ht3.ob
        refine ⟨rfl, _, rfl, t, rfl, _, rfl, ⟨dt, _, gt⟩, t, _, N, pd.rows, pd.per, rfl, ht3, by omega, by omega, pok.rows.lo, fun H4 e4 => hCy _ _ e4 ?_⟩
        rw [Int.zero_add]
      · intro H3 acc e3 hacc hpd3
        have hacc2 : acc = ((kdF N pd).land).map V.int := by
          have : ∀ {l : List Nat} {acc : List V}, Paired (fun (j : Nat) (y : V) => y = V.int (landT N pd.rows (j : Nat))) l acc → acc = (l.map fun x : Nat => landT N pd.rows x).map V.int := by
            intro l acc h
            induction h with
            | nil => rfl
            | cons a t ih => rw [a, ih]; rfl
          exact this hpd3
        subst hacc2
        have lD : l ≠ D := ne_of_none hl2 hD
        have gD : g ≠ D := ne_of_none hg2 hD
        have sD : sp ≠ D := ne_of_none hs2 hD
        have lg : l ≠ g := gl.symm
        refine ⟨l, ls, _, rfl, rfl, e3 _ _ hl2, small1000 (by omega), ?_⟩
        obtain ⟨H4, hH4⟩ : ∃ H4, upd H3 l (.lst (ls ++ [.ref D])) = H4 := ⟨_, rfl⟩
        rw [hH4]
        have k4 : ∀ x o, H2 x = some o → x ≠ l → H4 x = some o := fun x o e hx => by rw [← hH4, upd_ne hx]; exact e3 _ _ e
        have b4 : But p H H4 := fun x o e hx => k4 x o (b2 x o e hx) (ne_of_none e lN)
        have hp4 : H4 p = some (.ins c.Ja dx (jawsFs N l g sp)) := k4 _ _ hp2 pl
        have hg4 : H4 g = some (.lst gs) := k4 _ _ hg2 gl
        have hpart4 := hpart.butI b4 hp
        obtain ⟨dxa4, qa4, tda4, kvsa4, ga4, _⟩ := hpart4.ob
        -- the gaps
        refine ⟨_, rfl, p, c.Ja, dx, _, _, rfl, hp4, T.cl_Ja, T.n_Ja_gaps, jaws_gaps, .inl ⟨rfl, _, SqL.of hg4⟩, ?_⟩
        refine ⟨_, rfl, a, dxa4, _, rfl, ga4, a, N, pd, rfl, hpart4, fun G hG => ?_⟩
        have gG : g ≠ G := ne_of_none hg4 hG
        have e5 := same_new (o := .lst (pd.gap.map V.int)) hG
        refine ⟨g, gs, _, rfl, rfl, e5 _ _ hg4, small1000 (by omega), ?_⟩
        obtain ⟨H6, hH6⟩ : ∃ H6, upd (upd H4 G (.lst (pd.gap.map V.int))) g (.lst (gs ++ [.ref G])) = H6 := ⟨_, rfl⟩
        rw [hH6]
        have k6 : ∀ x o, H4 x = some o → x ≠ g → H6 x = some o := fun x o e hx => by rw [← hH6, upd_ne hx]; exact e5 _ _ e
        have b6 : But p H H6 := fun x o e hx => k6 x o (b4 x o e hx) (ne_of_none e gN)
        have hp6 : H6 p = some (.ins c.Ja dx (jawsFs N l g sp)) := k6 _ _ hp4 pg
        have hs6 : H6 sp = some (.lst (((pds.take i).map fun d => (kdF N d).span).map V.int)) := k6 _ _ (k4 _ _ hs2 sl) sg
        have hpart6 := hpart.butI b6 hp
        obtain ⟨dxa6, qa6, tda6, kvsa6, ga6, _⟩ := hpart6.ob
        -- the spans
        refine ⟨_, rfl, p, c.Ja, dx, _, _, rfl, hp6, T.cl_Ja, T.n_Ja_spans, jaws_spans, .inl ⟨rfl, _, SqL.of hs6⟩, ?_⟩
        refine ⟨_, rfl, a, dxa6, _, rfl, ga6, a, N, pd, rfl, hpart6, pok, fun H7 e7 => ?_⟩
        refine ⟨sp, _, _, rfl, rfl, e7 _ _ hs6, small1000 (by rw [List.length_map, List.length_map, List.length_take]; omega), ?_⟩
        have k8 : ∀ {o : HO} (x : Addr) (o' : HO), H6 x = some o' → x ≠ sp → upd H7 sp o x = some o' := fun {o} x o' e hx => by rw [upd_ne hx]; exact e7 _ _ e
        have D4 : H4 D = some (.lst (((kdF N pd).land).map V.int)) := by rw [← hH4, upd_ne lD.symm]; exact hacc
        have hGne : ∀ {x o}, H4 x = some o → x ≠ G := fun {x o} e => ne_of_none e hG
        have G6 : H6 G = some (.lst (pd.gap.map V.int)) := by rw [← hH6, upd_ne gG.symm, upd_same]
        have lG : G ≠ l := fun z => by
          have : H4 l = some (.lst (ls ++ [.ref D])) := by rw [← hH4, upd_same]
          rw [← z, hG] at this
          cases this
        have sG : G ≠ sp := (hGne (k4 _ _ hs2 sl)).symm
        have hl8 : ∀ {o}, upd H7 sp o l = some (.lst (ls ++ [.ref D])) := fun {o} => k8 _ _ (k6 _ _ (by rw [← hH4, upd_same]) lg) sl.symm
        refine ⟨ls ++ [.ref D], gs ++ [.ref G], _, _, _, rfl, fun x o e hx => k8 _ _ (b6 x o e hx) (ne_of_none e sN), k8 _ _ hp6 ps, hl8, k8 _ _ (by rw [← hH6, upd_same]) sg.symm, ?_, ?_, ?_⟩
        · rw [htk, List.map_append]
          refine paired_snoc (Paired.mapP hls fun xs v ⟨q, h1, h2, h3, h4, h5⟩ => ⟨q, h1, k8 _ _ (k6 _ _ (k4 _ _ h2 h3) h4) h5, h3, h4, h5⟩) ⟨D, rfl, k8 _ _ (k6 _ _ D4 gD.symm) sD.symm, lD.symm, gD.symm, sD.symm⟩
        · rw [htk, List.map_append]
          refine paired_snoc (Paired.mapP hgs fun xs v ⟨q, h1, h2, h3, h4, h5⟩ => ⟨q, h1, k8 _ _ (k6 _ _ (k4 _ _ h2 h3) h4) h5, h3, h4, h5⟩) ⟨G, rfl, k8 _ _ G6 sG, lG, gG.symm, sG⟩
        · rw [upd_same, htk, List.map_append, List.map_append]
          rfl
    · rintro σ H2 ⟨ls, gs, x2, x3, x4, rfl, b2, hp2, hl2, hg2, hls, hgs, hs2⟩
      have ht : pds.take vs.length = pds := by rw [hl, List.take_length]
      rw [ht] at hls hgs hs2
      refine q H2 b2 ⟨dx, l, g, sp, hp2, ⟨ls, hl2, ?_⟩, ⟨gs, hg2, ?_⟩, ?_⟩
      · show Paired _ ((pds.map (kdF N)).map Kd.land) ls
        rw [List.map_map]
        exact Paired.mapP hls fun _ _ ⟨q, a, b, _⟩ => ⟨q, a, b⟩
      · show Paired _ ((pds.map (kdF N)).map Kd.gap) gs
        rw [List.map_map]
        exact Paired.mapP hgs fun _ _ ⟨q, a, b, _⟩ => ⟨q, a, b⟩
      · have e : (pds.map (kdF N)).map Kd.span = pds.map fun d => (kdF N d).span := by rw [List.map_map]; rfl
        show H2 sp = some (.lst (((pds.map (kdF N)).map Kd.span).map V.int))
        rw [e]
        exact hs2
end
end L2.Jw
set_option Elab.async false
set_option linter.all false
set_option maxRecDepth 100000
set_option maxHeartbeats 4000000
namespace L2.Jw
open PySem PySem.Spec PyProof.Rows
section
variable {P : Program} {w : World} {K : PySem.W.Frag} {mg : Str → Option Value} {base : Heap} {c : Cs}
/-! ### the pairs of a world -/
theorem kd_at {W : Wd} {p : Pr} (h : inW W p) : ∃ kd, W.ks[p.1.toNat]? = some kd ∧ kdOf W p.1 = kd ∧ kd ∈ W.ks := by
  obtain ⟨h0, h1, _⟩ := h
  have hx : p.1.toNat < W.ks.length := by omega
  refine ⟨W.ks[p.1.toNat], List.getElem?_eq_getElem hx, ?_, List.getElem_mem hx⟩
  unfold kdOf
  rw [List.getD_eq_getElem?_getD, List.getElem?_eq_getElem hx]
  rfl
theorem land_in {W : Wd} (O : WOk W) {p : Pr} (h : inW W p) (t : Int) : inW W (p.1, landF W p t) ∧ landF W p t ∈ (kdOf W p.1).land := by
  obtain ⟨kd, h1, h2, h3⟩ := kd_at h
  have hl := O.ll kd h3
  have hN := O.n1
  have m0 : 0 ≤ (p.2 - t) % W.N := Int.emod_nonneg _ (by omega)
  have m1 : (p.2 - t) % W.N < W.N := Int.emod_lt_of_pos _ (by omega)
  have hx : ((p.2 - t) % W.N).toNat < kd.land.length := by omega
  have e : landF W p t = kd.land[((p.2 - t) % W.N).toNat] := by
    unfold landF
    rw [h2, List.getD_eq_getElem?_getD, List.getElem?_eq_getElem hx]
    rfl
  have hm : landF W p t ∈ kd.land := by rw [e]; exact List.getElem_mem hx
  have := O.lb kd h3 _ hm
  exact ⟨⟨h.1, h.2.1, this.1, this.2⟩, by rw [h2]; exact hm⟩
theorem lsls_get {H : Hp} {l : Addr} {W : Wd} {fld : Kd → List Int} (h : LsLs H l (W.ks.map fld)) {i : Nat} {kd : Kd} (hk : W.ks[i]? = some kd) : ∃ vs q, H l = some (.lst vs) ∧ vs[i]? = some (.ref q) ∧ H q = some (.lst ((fld kd).map V.int)) := by
  obtain ⟨vs, h1, h2⟩ := h
  obtain ⟨y, hy, q, rfl, hq⟩ := paired_get' h2 (i := i) (x := fld kd) (by rw [List.getElem?_map, hk]; rfl)
  exact ⟨vs, q, h1, hy, hq⟩
theorem ints_atI {l : List Int} {i : Int} (h0 : 0 ≤ i) (h1 : i < l.length) : atI (l.map V.int) i = some (.int (l.getD i.toNat 0)) := by
  have hx : i.toNat < l.length := by omega
  have := atI_nat (xs := l.map V.int) (j := i.toNat) (v := V.int l[i.toNat]) (by rw [List.getElem?_map, List.getElem?_eq_getElem hx]; rfl)
  rw [Int.toNat_of_nonneg h0] at this
  rw [this, List.getD_eq_getElem?_getD, List.getElem?_eq_getElem hx]
  rfl
theorem vals_atI {l : List V} {i : Int} {v : V} (h0 : 0 ≤ i) (h : l[i.toNat]? = some v) : atI l i = some v := by
  have := atI_nat h
  rw [Int.toNat_of_nonneg h0] at this
  exact this
/-! ### squeezed -/
def spSqueezed (K : PySem.W.Frag) (c : Cs) : Sp := fun vs H Q _ => ∃ (a : Addr) (v : V) (t : Int) (W : Wd) (p : Pr), vs = [.ref a, v, .int t] ∧ JawsAt c H a W ∧ WOk W ∧ Dp K H v (prD p) ∧ inW W p ∧
  ∀ H' r q, Same H H' → SqT K H' r [.ref q, .int (sqF W p t).2] → Dp K H' (.ref q) (prD (sqF W p t).1) → Q (.ref r) H'
abbrev s_Jaws_squeezed : Stmt := inC 50 2
theorem c_Jaws_squeezed : FnScope ["self", "pair", "turn", "kind", "x", "rest"] ["self", "pair", "turn"] (defScope s_Jaws_squeezed) := ⟨rfl, rfl, rfl, by decide +kernel, rfl, by decide +kernel, by decide +kernel⟩
theorem b_Jaws_squeezed : Bnd0 "squeezed" "Jaws.squeezed" s_Jaws_squeezed ["self", "pair", "turn"] := fun _ _ _ _ _ _ us hl => match us, hl with | [_, _, _], _ => rfl
theorem e_Jaws_squeezed (T : Tx K mg c) : Me P w K mg base CX0 1 c.Ja "squeezed" (spSqueezed K c) := by
  refine me_0 T.cl_Ja T.M_Ja_squeezed c_Jaws_squeezed b_Jaws_squeezed (fun vs H Q E h => ?_) fun f cdv A outer s H vs Q E hr h => ?_
  · obtain ⟨a, v, t, W, p, rfl, _⟩ := h
    rfl
  · obtain ⟨a, v, t, W, p, rfl, ⟨dx, l, g, s', h1, h2, h3, h4⟩, O, hd, hin, q⟩ := h
    obtain ⟨pa, rfl, hpa⟩ := dp_pr hd
    obtain ⟨kd, k1, k2, k3⟩ := kd_at hin
    obtain ⟨lv, lq, l1, l2, l3⟩ := lsls_get h2 k1
    obtain ⟨gv, gq, g1, g2, g3⟩ := lsls_get h3 k1
    have hN := O.n1
    have m0 : 0 ≤ (p.2 - t) % W.N := Int.emod_nonneg _ (by omega)
    have m1 : (p.2 - t) % W.N < W.N := Int.emod_lt_of_pos _ (by omega)
    have hll := O.ll kd k3
    have hgl := O.gl kd k3
    have hL : kd.land.getD ((p.2 - t) % W.N).toNat 0 = landF W p t := by unfold landF; rw [k2]
    have hr0 := (land_in O hin t).1
    refine ⟨_, (pss_cons (ps_asg (pv 1) (pg_tup rfl (pgs_cons (pg_name (i := 3) c_Jaws_squeezed.nd rfl (Or.inl rfl)) (pgs_cons (pg_name (i := 4) c_Jaws_squeezed.nd rfl (Or.inl rfl)) pgs_nil))))
      (pss_cons (ps_set (i := 5) c_Jaws_squeezed.nd rfl (Or.inl rfl) (pe_ix (r := rIxL K) ix_list (pe_ix (r := rIxL K) ix_list (pe_fld (pv 0) rfl) (pv 3) (fun _ _ => rfl)) (pe_op op_mod (pe_op op_sub (pv 4) (pv 2)) (pe_fld (pv 0) rfl)) (fun _ _ => rfl)))
      (pss_one (ps_ret (pe_tup (pa_cons (pe_tup (pa_cons (pv 3) (pa_cons (pv 5) pa_nil))) (pa_cons (pe_ix (r := rIxL K) ix_list (pe_ix (r := rIxL K) ix_list (pe_fld (pv 0) rfl) (pv 3) (fun _ _ => rfl)) (pv 5) (fun _ _ => rfl)) pa_nil))))))), ?_⟩
    refine ⟨_, rfl, pa, _, rfl, hpa, rfl, _, _, rfl, _, _, rfl, rfl, ?_⟩
    refine ⟨_, rfl, a, c.Ja, dx, _, _, rfl, h1, T.cl_Ja, T.n_Ja_lands, jaws_lands, _, rfl, l, lv, _, _, rfl, rfl, SqL.of l1, vals_atI hin.1 l2, _, rfl, _, rfl, _, _, rfl, rfl, _, rfl, a, c.Ja, dx, _, _, rfl, h1, T.cl_Ja, T.n_Ja_ring, jaws_ring, _, _, rfl, rfl, by omega, lq, _, _, _, rfl, rfl, SqL.of l3, ints_atI m0 (by omega), ?_⟩
    show gName 5 (V.int (kd.land.getD ((p.2 - t) % W.N).toNat 0)) _ _ _
    rw [hL]
    refine ⟨_, rfl, _, rfl, (by show 2 ≤ sizeLine; decide), fun u hu => ?_⟩
    have e1 := same_new (o := .tup [.int p.1, .int (landF W p t)]) hu
    refine ⟨_, rfl, a, c.Ja, dx, _, _, rfl, e1 _ _ h1, T.cl_Ja, T.n_Ja_gaps, jaws_gaps, _, rfl, g, gv, _, _, rfl, rfl, SqL.of (e1 _ _ g1), vals_atI hin.1 g2, _, rfl, gq, _, _, _, rfl, rfl, SqL.of (e1 _ _ g3), ints_atI hr0.2.2.1 (by have := hr0.2.2.2; omega), (by show 2 ≤ sizeLine; decide), fun r hr2 => ?_⟩
    have e2 := same_new (o := .tup [.ref u, .int (kd.gap.getD (landF W p t).toNat 0)]) hr2
    refine q _ r u (e1.trans e2) ?_ (pr_dp (same_sqT e2 (SqT.of upd_same)))
    have : (sqF W p t).2 = kd.gap.getD (landF W p t).toNat 0 := by unfold sqF; rw [k2]
    rw [this]
    exact SqT.of upd_same
/-! ### is_told -/
def spTold (K : PySem.W.Frag) (c : Cs) : Sp := fun vs H Q _ => ∃ (a : Addr) (v : V) (st : Bool) (W : Wd) (ps : List Pr), vs = [.ref a, v, .bl st] ∧ JawsAt c H a W ∧ WOk W ∧ Dp K H v (.tuple (ps.map prD)) ∧ ps ≠ [] ∧ (∀ p ∈ ps, inW W p) ∧ Q (.bl (toldF W st ps)) H
abbrev s_Jaws_is_told : Stmt := inC 50 4
theorem c_Jaws_is_told : FnScope ["self", "pairs", "settled", "kind", "place", "other", "x"] ["self", "pairs", "settled"] (defScope s_Jaws_is_told) := ⟨rfl, rfl, rfl, by decide +kernel, rfl, by decide +kernel, by decide +kernel⟩
theorem b_Jaws_is_told : Bnd0 "is_told" "Jaws.is_told" s_Jaws_is_told ["self", "pairs", "settled"] := fun _ _ _ _ _ _ us hl => match us, hl with | [_, _, _], _ => rfl
theorem e_Jaws_is_told (T : Tx K mg c) : Me P w K mg base CX0 1 c.Ja "is_told" (spTold K c) := by
  refine me_0 T.cl_Ja T.M_Ja_is_told c_Jaws_is_told b_Jaws_is_told (fun vs H Q E h => ?_) fun f cdv A outer s H vs Q E hr h => ?_
  · obtain ⟨a, v, st, W, ps, rfl, _⟩ := h
    rfl
  · obtain ⟨a, v, st, W, ps, rfl, ⟨dx, l, g, s', h1, h2, h3, h4⟩, O, hd, hne, hin, q⟩ := h
    obtain ⟨b, xs, rfl, hs, hda⟩ := dp_tup hd
    have hl : xs.length = ps.length := by have := dpAll_len hda; rw [List.length_map] at this; exact this
    obtain ⟨p0, rest, rfl⟩ : ∃ p0 rest, ps = p0 :: rest := by
      cases ps with
      | nil => exact absurd rfl hne
      | cons p0 rest => exact ⟨p0, rest, rfl⟩
    obtain ⟨y0, hy0, hd0⟩ := dpAll_at (i := 0) (b := p0) hda rfl
    obtain ⟨q0, rfl, hq0⟩ := dp_pr hd0
    obtain ⟨kd, k1, k2, k3⟩ := kd_at (hin p0 (List.mem_cons_self ..))
    have hsp := O.sp kd k3
    refine ⟨_, (pss_cons (ps_asg (pe_ix (r := rIxT K) ix_tup (pv 1) pe_int (fun _ _ => rfl)) (pg_tup rfl (pgs_cons (pg_name (i := 3) c_Jaws_is_told.nd rfl (Or.inl rfl)) (pgs_cons (pg_name (i := 4) c_Jaws_is_told.nd rfl (Or.inl rfl)) pgs_nil))))
      (pss_cons (ps_for PassesOwn.never rfl (pi_tup (pv 1)) (pg_tup rfl (pgs_cons (pg_name (i := 5) c_Jaws_is_told.nd rfl (Or.inl rfl)) (pgs_cons (pg_name (i := 6) c_Jaws_is_told.nd rfl (Or.inl rfl)) pgs_nil)))
      (pss_one (ps_if (PW.pt (pw_or (pt_cmpR op_ne (pv 5) (pv 3) (nomark _)) (pw_or1 (PW.pt (pw_and (pt_val (pv 2)) (pw_and1 (pt_cmpR op_ne (pe_op op_mod (pe_op op_sub (pv 6) (pv 4)) (pe_ix (r := rIxL K) ix_list (pe_fld (pv 0) rfl) (pv 3) (fun _ _ => rfl))) pe_int (nomark _)))))))) (pss_one (ps_ret pe_bl)) pss_nil)))
      (pss_one (ps_ret pe_bl)))), ?_⟩
    refine ⟨_, rfl, b, _, _, _, rfl, rfl, hs, (by exact atI_nat (j := 0) hy0), q0, _, rfl, hq0, rfl, _, _, rfl, _, _, rfl, rfl, ?_⟩
    have key : ∀ p : Pr, (decide (p.1 = p0.1) && (!st || decide ((p.2 - p0.2) % kd.span = 0))) = true ∨ (decide (p.1 = p0.1) && (!st || decide ((p.2 - p0.2) % kd.span = 0))) = false := fun p => by cases (decide (p.1 = p0.1) && (!st || decide ((p.2 - p0.2) % kd.span = 0))) <;> simp
    have hF : toldF W st (p0 :: rest) = (p0 :: rest).all fun p => (decide (p.1 = p0.1) && (!st || decide ((p.2 - p0.2) % kd.span = 0))) := by
      unfold toldF
      show (p0 :: rest).all (fun p => decide (p.1 = p0.1) && (!st || decide ((p.2 - p0.2) % (kdOf W p0.1).span = 0))) = _
      rw [k2]
    rw [hF] at q
    refine ⟨_, rfl, b, rfl, ⟨xs, hs⟩, for_it walk_tup (fun i σ H2 => H2 = H ∧ (∃ (x5 x6 : Option V), σ = [some (.ref a), some (.ref b), some (.bl st), some (.int p0.1), some (.int p0.2), x5, x6]) ∧ ∀ p ∈ (p0 :: rest).take i, (decide (p.1 = p0.1) && (!st || decide ((p.2 - p0.2) % kd.span = 0))) = true)
      ⟨rfl, ⟨none, none, rfl⟩, (fun p hp => by cases hp)⟩ (fun i σ H2 _ z => by rw [z.1]; exact hs) ?_ ?_⟩
    · rintro i y σ H2 H3 hi ⟨rfl, ⟨x5, x6, rfl⟩, hall⟩ ⟨rfl, hy⟩
      obtain ⟨p, hp, hdp⟩ := dpAll_item hda hy
      obtain ⟨qa, rfl, hqa⟩ := dp_pr hdp
      have htk : (p0 :: rest).take (i + 1) = (p0 :: rest).take i ++ [p] := by rw [List.take_succ, hp]; rfl
      have bad : (decide (p.1 = p0.1) && (!st || decide ((p.2 - p0.2) % kd.span = 0))) = false → Q (.bl false) H3 := fun hb => by
        have : ((p0 :: rest).all fun p => (decide (p.1 = p0.1) && (!st || decide ((p.2 - p0.2) % kd.span = 0)))) = false := by
          rw [List.all_eq_false]
          exact ⟨p, List.mem_of_getElem? hp, by rw [hb]; decide⟩
        rw [this] at q
        exact q
      have good : (decide (p.1 = p0.1) && (!st || decide ((p.2 - p0.2) % kd.span = 0))) = true → ∀ r ∈ (p0 :: rest).take (i + 1), (decide (r.1 = p0.1) && (!st || decide ((r.2 - p0.2) % kd.span = 0))) = true := fun hb r hr => by
        rw [htk] at hr
        rcases List.mem_append.mp hr with z | z
        · exact hall r z
        · rw [List.mem_singleton.mp z]; exact hb
      refine ⟨qa, _, rfl, hqa, rfl, _, _, rfl, _, _, rfl, rfl, ?_⟩
      refine ⟨_, rfl, _, rfl, rfl, _, rfl, ?_⟩
      by_cases hk : p.1 = p0.1
      · refine inD (by rw [hk]) ?_
        refine ⟨_, rfl, st, rfl, ?_⟩
        cases st with
        | false => exact iteF (iteF ⟨rfl, ⟨_, _, rfl⟩, good (by simp [hk])⟩)
        | true =>
          refine iteT ?_
          refine ⟨_, rfl, _, rfl, _, _, rfl, rfl, _, rfl, a, c.Ja, dx, _, _, rfl, h1, T.cl_Ja, T.n_Ja_spans, jaws_spans, _, rfl, s', _, _, _, rfl, rfl, SqL.of h4, vals_atI (hin p0 (List.mem_cons_self ..)).1 (v := .int kd.span) (by rw [List.getElem?_map, List.getElem?_map, k1]; rfl), _, _, rfl, rfl, hsp, rfl, _, rfl, ?_⟩
          by_cases hz : (p.2 - p0.2) % kd.span = 0
          · exact inD (congrArg V.int hz) ⟨rfl, ⟨_, _, rfl⟩, good (by simp [hk, hz])⟩
          · exact inN (fun z => hz (V.int.inj z)) (bad (by simp [hz]))
      · exact inN (fun z => hk (V.int.inj z)) (iteT (bad (by simp [hk])))
    · rintro σ H2 ⟨rfl, ⟨x5, x6, rfl⟩, hall⟩
      have : ((p0 :: rest).all fun p => (decide (p.1 = p0.1) && (!st || decide ((p.2 - p0.2) % kd.span = 0)))) = true := by
        rw [List.all_eq_true]
        intro p hp
        refine hall p ?_
        rw [hl, List.take_length]
        exact hp
      rw [this] at q
      exact q
end
end L2.Jw
set_option Elab.async false
set_option linter.all false
set_option maxRecDepth 100000
set_option maxHeartbeats 4000000
namespace L2.Jw
open PySem PySem.Spec PyProof.Rows
theorem wk {J : It} {n : Nat} {G : Hp → Prop} {Y : Nat → Hp → V → Hp → Prop} (w : Walk J n G Y) {B : V → Hp → (Hp → Prop) → Prop} {H0 : Hp} {Qd : Hp → Prop} (Pv : Nat → Hp → Prop) (h0 : Pv 0 H0) (hG : ∀ i H, i ≤ n → Pv i H → G H)
    (hs : ∀ i x H H', i < n → Pv i H → Y i H x H' → B x H' (Pv (i + 1))) (hd : ∀ H, Pv n H → Qd H) :
    ∃ W : Nat → Nat → Hp → Prop, (∃ m, W 0 m H0) ∧ ∀ i m H, W i m H → (J.stop i H ∧ Qd H) ∨ (J.go i H ∧ ∃ Nx : Hp → Prop, (∀ H', Nx H' → ∃ m', m' < m ∧ W (i + 1) m' H') ∧ ∀ x H', J.yld i H x H' → B x H' Nx) := by
  refine ⟨fun i m H => m = n - i ∧ i ≤ n ∧ Pv i H, ⟨n, by simp, Nat.zero_le _, h0⟩, ?_⟩
  rintro i m H ⟨rfl, hi, p⟩
  have gH := hG i H hi p
  by_cases hlt : i < n
  · exact .inr ⟨w.goes i H hlt gH, Pv (i + 1), fun H' p' => ⟨n - (i + 1), by omega, rfl, hlt, p'⟩, fun x H' y => hs i x H H' hlt p (w.yields i H x H' hlt gH y)⟩
  · have e : i = n := by omega
    subst e
    exact .inl ⟨w.stops H gH, hd H p⟩
def trD (x : Tri) : PyData := .tuple [.int x.1, .int x.2.1, .int x.2.2]
theorem dp_tr {K : PySem.W.Frag} {H : Hp} {v : V} {x : Tri} (h : Dp K H v (trD x)) : ∃ q, v = .ref q ∧ SqT K H q [.int x.1, .int x.2.1, .int x.2.2] := by
  cases h with
  | tup hs ha =>
    cases ha with
    | cons h1 ha =>
      cases h1
      cases ha with
      | cons h2 ha =>
        cases h2
        cases ha with
        | cons h3 ha =>
          cases h3
          cases ha
          exact ⟨_, rfl, hs⟩
theorem tr_dp {K : PySem.W.Frag} {H : Hp} {q : Addr} {a b d : Int} (h : SqT K H q [.int a, .int b, .int d]) : Dp K H (.ref q) (trD (a, b, d)) := .tup h (.cons (.int _) (.cons (.int _) (.cons (.int _) .nil)))
theorem trs_tkeep {K : PySem.W.Frag} {H H' : Hp} (k : TKeep K H H') : ∀ {ts : List Tri} {vs : List V}, DpAll K H vs (ts.map trD) → DpAll K H' vs (ts.map trD)
  | [], _, h => by cases h; exact .nil
  | t :: ts, _, h => by
    cases h with
    | cons h1 h2 =>
      obtain ⟨q, rfl, hq⟩ := dp_tr h1
      exact .cons (tr_dp (k _ _ hq)) (trs_tkeep k h2)
section
variable {P : Program} {w : World} {K : PySem.W.Frag} {mg : Str → Option Value} {base : Heap} {c : Cs}
theorem tr_but {D : Addr} {H H' : Hp} {acc : List V} {v : V} {x : Tri} (hD : H D = some (.lst acc)) (e : But D H H') (h : Dp K H v (trD x)) : Dp K H' v (trD x) := by
  obtain ⟨q, rfl, hq⟩ := dp_tr h
  exact tr_dp (but_sqT e hD hq)
/-! ### all_pairs -/
def preP (N : Nat) (i : Nat) : List Pr := (List.range i).flatMap fun k : Nat => (List.range N).map fun x : Nat => ((k : Int), (x : Int))
theorem preP_succ (N i : Nat) : preP N (i + 1) = preP N i ++ (List.range N).map fun x : Nat => ((i : Int), (x : Int)) := by
  unfold preP
  rw [List.range_succ, List.flatMap_append, List.flatMap_singleton]
def spAllPairs (K : PySem.W.Frag) (c : Cs) : Sp := fun vs H Q _ => ∃ (a : Addr) (W : Wd), vs = [.ref a] ∧ JawsAt c H a W ∧ WOk W ∧ ∀ H' p, Same H H' → Dp K H' (.ref p) (.tuple ((allP W).map prD)) → Q (.ref p) H'
abbrev s_Jaws_all_pairs : Stmt := inC 50 1
theorem c_Jaws_all_pairs : FnScope ["self", "kind", "x"] ["self"] (defScope s_Jaws_all_pairs) := ⟨rfl, rfl, rfl, by decide +kernel, rfl, by decide +kernel, by decide +kernel⟩
theorem b_Jaws_all_pairs : Bnd0 "all_pairs" "Jaws.all_pairs" s_Jaws_all_pairs ["self"] := fun _ _ _ _ _ _ us hl => match us, hl with | [_], _ => rfl
theorem e_Jaws_all_pairs (T : Tx K mg c) : Me P w K mg base CX0 1 c.Ja "all_pairs" (spAllPairs K c) := by
  refine me_0 T.cl_Ja T.M_Ja_all_pairs c_Jaws_all_pairs b_Jaws_all_pairs (fun vs H Q E h => ?_) fun f cdv A outer s H vs Q E hr h => ?_
  · obtain ⟨a, W, rfl, _⟩ := h
    rfl
  · obtain ⟨a, W, rfl, J, O, q⟩ := h
    obtain ⟨dx, l, g, s', h1, ⟨lv, h2, h2p⟩, h3, h4⟩ := id J
    have hN := O.n1
    have hN2 := O.n2
    have hk3 := O.k3
    have hlv : lv.length = W.ks.length := by have := Paired.len h2p; rw [List.length_map] at this; exact this.symm
    refine ⟨_, (pss_one (ps_ret (pe_callTy call_tuple_of (by rfl) T.tuple (by decide +kernel) (pa_cons (pe_lc2 (own := [("kind", 1), ("x", 2)]) (g := (gName 1)) (tt := tYes) (g1 := (gName 2)) (tt1 := tYes) (vs1 := [2]) (by rfl) c_Jaws_all_pairs.nd (pi_range1 (by rfl) T.range (pa_cons (pe_callB call_len_seq (by rfl) T.len (by decide +kernel) (pa_cons (pe_fld (pv 0) rfl) pa_nil)) pa_nil)) (blkOk_by (own := [("kind", 1), ("x", 2)]) (N := ["self", "kind", "x"]) (sc := defScope s_Jaws_all_pairs) (by decide +kernel)) (by decide) (fun _ _ _ _ _ => (pg_name (i := 1) c_Jaws_all_pairs.nd rfl (Or.inl rfl))) (fun _ _ _ _ _ => pts_nil) (fun _ _ _ _ _ => (pi_range1 (by rfl) T.range (pa_cons (show PE _ _ (tFld K (tVar 0) "ring") from pe_fld (pv 0) rfl) pa_nil))) (fun _ _ _ _ _ => (pg_name (i := 2) c_Jaws_all_pairs.nd rfl (Or.inl rfl))) (fun _ _ _ _ _ => pts_nil) (fun _ _ _ _ _ => (pe_tup (pa_cons (pv 1) (pa_cons (pv 2) pa_nil))))) pa_nil)))), ?_⟩
    refine ⟨_, rfl, a, c.Ja, dx, _, _, rfl, h1, T.cl_Ja, T.n_Ja_lands, jaws_lands, l, lv, rfl, .inl (SqL.of h2), _, rfl, by omega, by omega, fun D hD => ?_⟩
    refine wk (walk_range (lo := 0)) (fun i H2 => Same H H2 ∧ ∃ acc, H2 D = some (.lst acc) ∧ acc.length = i * W.N.toNat ∧ DpAll K H2 acc ((preP W.N.toNat i).map prD)) ⟨same_new hD, [], upd_same, by rw [Nat.zero_mul]; rfl, .nil⟩ (fun _ _ _ _ => True.intro) ?_ ?_
    · rintro i x H2' H2 hi ⟨e2, acc, hacc, hal, hda⟩ ⟨rfl, rfl⟩
      have i3 : i < 3 := by omega
      have iN : i * W.N.toNat ≤ 2 * 48 := Nat.mul_le_mul (by omega) (by omega)
      refine ⟨rfl, _, rfl, a, c.Ja, dx, _, _, rfl, e2 _ _ h1, T.cl_Ja, T.n_Ja_ring, jaws_ring, W.N, rfl, by omega, by omega, ?_⟩
      refine wk (walk_range (lo := 0)) (fun j H3 => Same H H3 ∧ ∃ acc, H3 D = some (.lst acc) ∧ acc.length = i * W.N.toNat + j ∧ DpAll K H3 acc ((preP W.N.toNat i ++ (List.range j).map fun x : Nat => ((i : Int), (x : Int))).map prD)) ⟨e2, acc, hacc, hal, by rw [List.range_zero, List.map_nil, List.append_nil]; exact hda⟩ (fun _ _ _ _ => True.intro) ?_ ?_
      · rintro j y H3' H3 hj ⟨e3, acc3, hacc3, hal3, hda3⟩ ⟨rfl, rfl⟩
        refine ⟨rfl, _, rfl, _, rfl, (by show 2 ≤ sizeLine; decide), fun u hu => ?_⟩
        have e4 := same_new (o := .tup [.int (0 + (i : Int)), .int (0 + (j : Int))]) hu
        have Du : D ≠ u := ne_of_none hacc3 hu
        have k5 : TKeep K (upd H3 u (.tup [.int (0 + (i : Int)), .int (0 + (j : Int))])) (upd (upd H3 u (.tup [.int (0 + (i : Int)), .int (0 + (j : Int))])) D (.lst (acc3 ++ [.ref u]))) := lst_tkeep (e4 _ _ hacc3)
        refine ⟨acc3, e4 _ _ hacc3, small1000 (by omega), same_updO (e3.trans e4) hD, acc3 ++ [.ref u], upd_same, by rw [List.length_append, hal3]; rfl, ?_⟩
        rw [List.range_succ, List.map_append, List.map_append, List.map_append, ← List.append_assoc, ← List.map_append]
        refine dpAll_app (prs_tkeep k5 (dpAll_same e4 _ _ hda3)) (dpAll_one ?_)
        have e9 : prD ((0 : Int) + (i : Int), (0 : Int) + (j : Int)) = prD ((i : Int), (j : Int)) := by rw [Int.zero_add, Int.zero_add]
        exact Eq.mp (congrArg (Dp K _ (V.ref u)) e9) (pr_dp (k5 _ _ (SqT.of upd_same)))
      · rintro H3 ⟨e3, acc3, hacc3, hal3, hda3⟩
        exact ⟨e3, acc3, hacc3, by rw [hal3, Nat.succ_mul], by rw [preP_succ]; exact hda3⟩
    · rintro H2 ⟨e2, acc, hacc, hal, hda⟩
      refine ⟨D, acc, rfl, .inl ⟨SqL.of hacc, fun p hp => q _ p (e2.trans (same_new hp)) (.tup (SqT.of upd_same) (dpAll_same (same_new hp) _ _ ?_))⟩⟩
      have : preP W.N.toNat ((lv.length : Int)).toNat = allP W := by
        rw [Int.toNat_natCast, hlv]
        rfl
      rw [← this]
      exact hda
theorem mem_allP {W : Wd} {p : Pr} (h : p ∈ allP W) : inW W p := by
  unfold allP at h
  obtain ⟨k, hk, h⟩ := List.mem_flatMap.mp h
  obtain ⟨x, hx, rfl⟩ := List.mem_map.mp h
  have h1 := List.mem_range.mp hk
  have h2 := List.mem_range.mp hx
  exact ⟨by show (0 : Int) ≤ k; omega, by show (k : Int) < W.ks.length; omega, by show (0 : Int) ≤ x; omega, by show (x : Int) < W.N; omega⟩
/-! ### check_log -/
def spCheckLog (K : PySem.W.Frag) : Sp := fun vs H Q _ => ∃ (a : Addr) (xs : List V) (log : List (Int × Int)), vs = [.ref a] ∧ H a = some (.lst xs) ∧ DpAll K H xs (log.map prD) ∧ log.length ≤ 40 ∧ ∀ H', Same H H' → Q .non H'
abbrev s_check_log : Stmt := top 51
theorem c_check_log : FnScope ["log", "at", "item"] ["log"] (defScope s_check_log) := ⟨rfl, rfl, rfl, by decide +kernel, rfl, by decide +kernel, by decide +kernel⟩
theorem b_check_log : Bnd0 "check_log" "check_log" s_check_log ["log"] := fun _ _ _ _ _ _ us hl => match us, hl with | [_], _ => rfl
theorem d_check_log (T : Tx K mg c) : Df P w K mg base CX0 2 "check_log" (spCheckLog K) := by
  refine df_0 T.D_check_log c_check_log b_check_log (fun vs H Q E h => ?_) fun f cdv A outer s H vs Q E hr h => ?_
  · obtain ⟨a, xs, log, rfl, _⟩ := h
    rfl
  · obtain ⟨a, xs, log, rfl, ha, hda, hlen, q⟩ := h
    have hl : xs.length = log.length := by have := dpAll_len hda; rw [List.length_map] at this; exact this
    refine ⟨_, (pss_cons (ps_if (PW.pt (pw_or (pt_not (pt_val (pe_D (d_is_row T) (hr.mono (by first | decide | omega)) rfl pass0 (pa_cons (pv 0) pa_nil)))) (pw_or1 (pt_cmpR op_gt (pe_callB call_len_seq (by rfl) T.len (by decide +kernel) (pa_cons (pv 0) pa_nil)) (pe_gI rfl T.MOST_LOG) (nomark _))))) (pss_one ps_never) pss_nil)
      (pss_one (ps_for PassesOwn.never rfl (pi_enum (by rfl) T.enumerate (pa_cons (pv 0) pa_nil)) (pg_tup rfl (pgs_cons (pg_name (i := 1) c_check_log.nd rfl (Or.inl rfl)) (pgs_cons (pg_name (i := 2) c_check_log.nd rfl (Or.inl rfl)) pgs_nil)))
      (pss_one (ps_if (PW.pt (pw_or (pt_not (pt_val (pe_callB call_isi (by rfl) T.isinstance (by decide +kernel) (pa_cons (pv 2) (pa_cons (pe_tyN "tuple" (by rfl) T.tuple (by decide +kernel)) pa_nil))))) (pw_or (pt_cmpR op_ne (pe_callB call_len_seq (by rfl) T.len (by decide +kernel) (pa_cons (pv 2) pa_nil)) pe_int (nomark _)) (pw_or (pt_not (pt_val (pe_D (d_is_integer T) (hr.mono (by first | decide | omega)) rfl pass0 (pa_cons (pe_ix (r := rIxT K) ix_tup (pv 2) pe_int (fun _ _ => rfl)) pa_nil)))) (pw_or1 (pt_not (pt_val (pe_D (d_is_integer T) (hr.mono (by first | decide | omega)) rfl pass0 (pa_cons (pe_ix (r := rIxT K) ix_tup (pv 2) pe_int (fun _ _ => rfl)) pa_nil))))))))) (pss_one ps_never) pss_nil))))), ?_⟩
    refine ⟨_, rfl, a, xs, rfl, ha, fun H1 e1 => ⟨true, rfl, iteF ?_⟩⟩
    refine ⟨_, rfl, a, xs, rfl, .inl (SqL.of (e1 _ _ ha)), _, _, rfl, rfl, _, rfl, itN (by rw [hl]; omega) ?_⟩
    refine ⟨_, rfl, a, xs, rfl, SqL.of (e1 _ _ ha), for_it walk_enum (fun i σ H2 => Same H H2 ∧ ∃ (x1 x2 : Option V), σ = [some (.ref a), x1, x2])
      ⟨e1, none, none, rfl⟩ (fun i σ H2 _ z => SqL.of (z.1 _ _ ha)) ?_ ?_⟩
    · rintro i x σ H2 H3 hi ⟨e2, x1, x2, rfl⟩ ⟨t, x0, y, rfl, ht, rfl, hx0, hy⟩
      cases hx0
      obtain ⟨r, hrow, hdy⟩ := dpAll_item hda hy
      obtain ⟨qa, rfl, hqa⟩ := dp_pr hdy
      have e3 := same_updN (o := .tup [.int (i : Nat), .ref qa]) e2 ht
      have hqa3 := same_sqT e3 hqa
      refine ⟨t, _, rfl, SqT.of upd_same, rfl, _, _, rfl, _, _, rfl, rfl, ?_⟩
      refine ⟨_, rfl, .ref qa, .ty "tuple", _, _, true, rfl, .ty _, tyx_tup hqa3, kit_ty (by decide +kernel), true, rfl, iteF ?_⟩
      refine ⟨_, rfl, qa, _, rfl, .inr hqa3, rfl, _, rfl, iteF ?_⟩
      refine ⟨_, rfl, qa, _, _, _, rfl, rfl, hqa3, atI0, r.1, rfl, true, rfl, iteF ?_⟩
      exact ⟨_, rfl, qa, _, _, _, rfl, rfl, hqa3, atI1, r.2, rfl, true, rfl, iteF ⟨e3, _, _, rfl⟩⟩
    · rintro σ H2 ⟨e2, x1, x2, rfl⟩
      exact q H2 e2
/-! ### still_fitting -/
theorem still_snoc (W : Wd) (l : List Tri) (x : Tri) (t w : Int) : stillF W (l ++ [x]) t w = stillF W l t w ++ (if (sqF W (x.1, x.2.2) t).2 = w then [(x.1, x.2.1, landF W (x.1, x.2.2) t)] else []) := by
  unfold stillF
  rw [List.filterMap_append]
  congr 1
  by_cases h : (sqF W (x.1, x.2.2) t).2 = w
  · rw [if_pos h]
    simp [h]
  · rw [if_neg h]
    simp [h]
def spStill (K : PySem.W.Frag) (c : Cs) : Sp := fun vs H Q _ => ∃ (a b : Addr) (t wd : Int) (W : Wd) (xs : List V) (l : List Tri), vs = [.ref a, .ref b, .int t, .int wd] ∧ JawsAt c H a W ∧ WOk W ∧ H b = some (.lst xs) ∧ DpAll K H xs (l.map trD) ∧ (∀ x ∈ l, inW W (x.1, x.2.2)) ∧ l.length ≤ 200 ∧
  ∀ H' r ys, Same H H' → H' r = some (.lst ys) → DpAll K H' ys ((stillF W l t wd).map trD) → Q (.ref r) H'
abbrev s_still_fitting : Stmt := top 52
theorem c_still_fitting : FnScope ["jaws", "triples", "turn", "width", "fresh", "kind", "begin", "x", "pair", "shown"] ["jaws", "triples", "turn", "width"] (defScope s_still_fitting) := ⟨rfl, rfl, rfl, by decide +kernel, rfl, by decide +kernel, by decide +kernel⟩
theorem b_still_fitting : Bnd0 "still_fitting" "still_fitting" s_still_fitting ["jaws", "triples", "turn", "width"] := fun _ _ _ _ _ _ us hl => match us, hl with | [_, _, _, _], _ => rfl
theorem d_still_fitting (T : Tx K mg c) : Df P w K mg base CX0 2 "still_fitting" (spStill K c) := by
  refine df_0 T.D_still_fitting c_still_fitting b_still_fitting (fun vs H Q E h => ?_) fun f cdv A outer s H vs Q E hr h => ?_
  · obtain ⟨a, b, t, wd, W, xs, l, rfl, _⟩ := h
    rfl
  · obtain ⟨a, b, t, wd, W, xs, l, rfl, J, O, hb, hda, hin, hlen, q⟩ := h
    have hl : xs.length = l.length := by have := dpAll_len hda; rw [List.length_map] at this; exact this
    refine ⟨_, (pss_cons (ps_set (i := 4) c_still_fitting.nd rfl (Or.inl rfl) (pe_lst pa_nil))
      (pss_cons (ps_for PassesOwn.never rfl (pi_list (pv 1)) (pg_tup rfl (pgs_cons (pg_name (i := 5) c_still_fitting.nd rfl (Or.inl rfl)) (pgs_cons (pg_name (i := 6) c_still_fitting.nd rfl (Or.inl rfl)) (pgs_cons (pg_name (i := 7) c_still_fitting.nd rfl (Or.inl rfl)) pgs_nil))))
      (pss_cons (ps_asg (pe_M (pv 0) (e_Jaws_squeezed T) (hr.mono (by first | decide | omega)) pass0 (pa_cons (pe_tup (pa_cons (pv 5) (pa_cons (pv 7) pa_nil))) (pa_cons (pv 2) pa_nil))) (pg_tup rfl (pgs_cons (pg_name (i := 8) c_still_fitting.nd rfl (Or.inl rfl)) (pgs_cons (pg_name (i := 9) c_still_fitting.nd rfl (Or.inl rfl)) pgs_nil))))
      (pss_one (ps_if (pt_cmpR op_eq (pv 9) (pv 3) (nomark _)) (pss_one (ps_expr (pe_bm PySem.F.plainAttrs_list PySem.F.slot_list_append PySem.F.type_list_append mt_append (pv 4) (pa_cons (pe_tup (pa_cons (pv 5) (pa_cons (pv 6) (pa_cons (pe_ix (r := rIxT K) ix_tup (pv 8) pe_int (fun _ _ => rfl)) pa_nil)))) pa_nil)))) pss_nil))))
      (pss_one (ps_ret (pv 4))))), ?_⟩
    refine ⟨(by show 0 ≤ sizeLine; decide), fun F hF => ?_⟩
    have eF := same_new (o := .lst []) hF
    refine ⟨_, rfl, b, rfl, ⟨xs, SqL.of (eF _ _ hb)⟩, for_it walk_list (fun i σ H2 => Same H H2 ∧ ∃ (acc : List V) (x5 x6 x7 x8 x9 : Option V), σ = [some (.ref a), some (.ref b), some (.int t), some (.int wd), some (.ref F), x5, x6, x7, x8, x9] ∧ H2 F = some (.lst acc) ∧ acc.length ≤ i ∧ DpAll K H2 acc ((stillF W (l.take i) t wd).map trD))
      ⟨eF, [], none, none, none, none, none, rfl, upd_same, Nat.le_refl _, .nil⟩ (fun i σ H2 _ z => SqL.of (z.1 _ _ hb)) ?_ ?_⟩
    · rintro i y σ H2' H2 hi ⟨e2, acc, x5, x6, x7, x8, x9, rfl, hacc, hal, hda2⟩ ⟨rfl, hy⟩
      obtain ⟨x, hx, hdx⟩ := dpAll_item hda hy
      obtain ⟨qa, rfl, hqa⟩ := dp_tr hdx
      have htk : l.take (i + 1) = l.take i ++ [x] := by rw [List.take_succ, hx]; rfl
      have hinx := hin x (List.mem_of_getElem? hx)
      refine ⟨qa, _, rfl, same_sqT e2 hqa, rfl, _, _, rfl, _, _, rfl, _, _, rfl, rfl, ?_⟩
      obtain ⟨dx, l1, g1, s1, h1, _⟩ := (J.same e2).ob
      refine ⟨_, rfl, a, dx, _, rfl, h1, (by unfold jawsFs; kernel_rfl), _, rfl, _, rfl, (by show 2 ≤ sizeLine; decide), fun u hu => ?_⟩
      have e3 := same_new (o := .tup [.int x.1, .int x.2.2]) hu
      refine ⟨_, rfl, a, .ref u, t, W, (x.1, x.2.2), rfl, (J.same e2).same e3, O, pr_dp (SqT.of upd_same), hinx, fun H4 r r2 e4 hr4 hr2 => ?_⟩
      obtain ⟨r2', er2, hr2'⟩ := dp_pr hr2
      cases er2
      refine ⟨r, _, rfl, hr4, rfl, _, _, rfl, _, _, rfl, rfl, ?_⟩
      have e24 := e3.trans e4
      refine ⟨_, rfl, _, rfl, rfl, _, rfl, ?_⟩
      by_cases hw : (sqF W (x.1, x.2.2) t).2 = wd
      · refine itD (congrArg V.int hw) ?_
        have hF4 := e24 _ _ hacc
        refine ⟨_, rfl, .inl ⟨rfl, _, SqL.of hF4⟩, _, rfl, _, rfl, _, rfl, r2, _, _, _, rfl, rfl, hr2', atI1, (by show 3 ≤ sizeLine; decide), fun u2 hu2 => ?_⟩
        have e5 := same_new (o := .tup [.int x.1, .int x.2.1, .int (sqF W (x.1, x.2.2) t).1.2]) hu2
        have k6 : TKeep K (upd H4 u2 (.tup [.int x.1, .int x.2.1, .int (sqF W (x.1, x.2.2) t).1.2])) (upd (upd H4 u2 (.tup [.int x.1, .int x.2.1, .int (sqF W (x.1, x.2.2) t).1.2])) F (.lst (acc ++ [.ref u2]))) := lst_tkeep (e5 _ _ hF4)
        refine ⟨F, acc, _, rfl, rfl, e5 _ _ hF4, small1000 (by omega), same_updO (e2.trans (e24.trans e5)) hF, acc ++ [.ref u2], _, _, _, _, _, rfl, upd_same, by rw [List.length_append]; exact Nat.succ_le_succ hal, ?_⟩
        rw [htk, still_snoc, if_pos hw, List.map_append]
        exact dpAll_app (trs_tkeep k6 (dpAll_same (e24.trans e5) _ _ hda2)) (dpAll_one (tr_dp (k6 _ _ (SqT.of upd_same))))
      · refine itN (fun z => hw (V.int.inj z)) ?_
        refine ⟨e2.trans e24, acc, _, _, _, _, _, rfl, e24 _ _ hacc, Nat.le_succ_of_le hal, ?_⟩
        rw [htk, still_snoc, if_neg hw, List.append_nil]
        exact dpAll_same e24 _ _ hda2
    · rintro σ H2 ⟨e2, acc, x5, x6, x7, x8, x9, rfl, hacc, hal, hda2⟩
      rw [hl, List.take_length] at hda2
      exact ⟨_, rfl, q H2 F acc e2 hacc hda2⟩
end
end L2.Jw
set_option Elab.async false
set_option linter.all false
set_option maxRecDepth 100000
set_option maxHeartbeats 4000000
namespace L2.Jw
open PySem PySem.Spec PyProof.Rows
section
variable {P : Program} {w : World} {K : PySem.W.Frag} {mg : Str → Option Value} {base : Heap} {c : Cs}
def spJawsN (K : PySem.W.Frag) (c : Cs) : Sp := fun vs H Q _ => ∃ (pa : Addr) (N : Int) (pds : List PartD), vs = [.ref pa] ∧ PartsAt K c H pa N pds ∧ 1 ≤ pds.length ∧ pds.length ≤ 3 ∧ (∀ d ∈ pds, PartOk N d) ∧
  ∀ p H', Same H H' → JawsAt c H' p (wdF N pds) → Q (.ref p) H'
theorem nw_Jaws : ∀ (vs : List V) (H : Hp) (Q : VK), spJawsN K c vs H Q E0 → ∀ x dx, H x = none → H dx = none → dx ≠ x → spJawsI K c (V.ref x :: vs) (upd (upd H dx (.own x)) x (.ins c.Ja dx [])) (fun v H2 => v = .non ∧ Q (.ref x) H2) E0 := by
  rintro vs H Q ⟨pa, N, pds, rfl, h1, l1, l3, hok, q⟩ x dx hx hdx hne
  have e := same_made (C := c.Ja) hx hdx
  exact ⟨x, dx, pa, N, pds, rfl, upd_same, h1.same e, l1, l3, hok, fun H' b hj => ⟨rfl, q x H' (b.same e hx) hj⟩⟩
/-- the world of good parts -/
theorem wOk {N : Int} {pds : List PartD} (l1 : 1 ≤ pds.length) (l3 : pds.length ≤ 3) (hok : ∀ d ∈ pds, PartOk N d) : WOk (wdF N pds) := by
  have h0 : ∃ d, d ∈ pds := ⟨pds[0], List.getElem_mem (by omega)⟩
  obtain ⟨d0, hd0⟩ := h0
  have O := hok d0 hd0
  have landm : ∀ d ∈ pds, ∀ y ∈ (kdF N d).land, ∃ r ∈ d.rows, y = r.2 := fun d hd y hy => by
    obtain ⟨x, _, rfl⟩ := List.mem_map.mp hy
    have P := hok d hd
    have hN := P.n2
    have hne : d.rows ≠ [] := fun z => by have := P.rows.lo; rw [z] at this; simp at this
    have rA : ∀ (pl : Int) (l : List (Int × Int)) (r : Int × Int), rowAt pl r l = r ∨ rowAt pl r l ∈ l := by
      intro pl l
      induction l with
      | nil => intro r; exact .inl rfl
      | cons a t ih =>
        intro r
        show (if a.1 ≤ pl then rowAt pl a t else rowAt pl r t) = r ∨ (if a.1 ≤ pl then rowAt pl a t else rowAt pl r t) ∈ a :: t
        by_cases h : a.1 ≤ pl
        · rw [if_pos h]
          rcases ih a with z | z
          · rw [z]; exact .inr (List.mem_cons_self ..)
          · exact .inr (List.mem_cons_of_mem _ z)
        · rw [if_neg h]
          rcases ih r with z | z
          · exact .inl z
          · exact .inr (List.mem_cons_of_mem _ z)
    obtain ⟨r0, rs, hr⟩ : ∃ r0 rs, d.rows = r0 :: rs := by
      cases hh : d.rows with
      | nil => exact absurd hh hne
      | cons r0 rs => exact ⟨r0, rs, rfl⟩
    unfold landT liftF
    simp only [hr]
    generalize hlp : (if (x : Int) % N < ((r0 :: rs).headD (0, 0)).1 then ((x : Int) / N - 1, (x : Int) % N + N) else ((x : Int) / N, (x : Int) % N)) = lp
    have hm : rowAt lp.2 ((r0 :: rs).headD (0, 0)) (r0 :: rs) ∈ r0 :: rs := by
      rcases rA lp.2 (r0 :: rs) r0 with z | z
      · show rowAt lp.2 r0 (r0 :: rs) ∈ _
        rw [z]; exact List.mem_cons_self ..
      · exact z
    refine ⟨_, hm, ?_⟩
    generalize hrr : rowAt lp.2 ((r0 :: rs).headD (0, 0)) (r0 :: rs) = rr at hm
    have B := P.rows.bnd rr (by rw [hr]; exact hm)
    have e1 : (lp.1 * N + rr.1 + (rr.2 - rr.1) % N) % N = (rr.2) % N := by
      rw [Int.add_emod_emod, show lp.1 * N + rr.1 + (rr.2 - rr.1) = rr.2 + N * lp.1 by rw [Int.mul_comm]; omega, Int.add_mul_emod_self_left]
    rw [e1]
    exact Int.emod_eq_of_lt B.2.2.1 B.2.2.2
  exact {
    n1 := O.n2
    n2 := O.n48
    k1 := by show 1 ≤ (pds.map (kdF N)).length; rw [List.length_map]; exact l1
    k3 := by show (pds.map (kdF N)).length ≤ 3; rw [List.length_map]; exact l3
    ll := fun k hk => by
      obtain ⟨d, hd, rfl⟩ := List.mem_map.mp hk
      have := (hok d hd).n2
      show ((((List.range N.toNat).map _).length : Nat) : Int) = N
      rw [List.length_map, List.length_range]
      omega
    lb := fun k hk y hy => by
      obtain ⟨d, hd, rfl⟩ := List.mem_map.mp hk
      obtain ⟨r, hr, rfl⟩ := landm d hd y hy
      have B := (hok d hd).rows.bnd r hr
      exact ⟨B.2.2.1, B.2.2.2⟩
    few := fun k hk => by
      obtain ⟨d, hd, rfl⟩ := List.mem_map.mp hk
      refine ⟨d.rows.map Prod.snd, by rw [List.length_map]; exact (hok d hd).few, fun y hy => ?_⟩
      obtain ⟨r, hr, rfl⟩ := landm d hd y hy
      exact List.mem_map.mpr ⟨r, hr, rfl⟩
    gl := fun k hk => by
      obtain ⟨d, hd, rfl⟩ := List.mem_map.mp hk
      exact (hok d hd).gap.len
    gb := fun k hk => by
      obtain ⟨d, hd, rfl⟩ := List.mem_map.mp hk
      exact (hok d hd).gap.bnd
    sp := fun k hk => by
      obtain ⟨d, hd, rfl⟩ := List.mem_map.mp hk
      have Q := hok d hd
      have h1 := Q.p1
      show 0 < spanD d
      unfold spanD
      cases hp : d.push with
      | none =>
        have : 0 < Nat.lcm (Int.natAbs 1) d.per.natAbs := Nat.lcm_pos (by decide) (by omega)
        show (0 : Int) < ((Nat.lcm (Int.natAbs 1) d.per.natAbs : Nat) : Int)
        omega
      | some pp =>
        have h2 := Q.push pp hp
        have h3 : 0 < Nat.lcm (Int.natAbs 1) pp.natAbs := Nat.lcm_pos (by decide) (by omega)
        have : 0 < Nat.lcm (Int.natAbs ((Nat.lcm (Int.natAbs 1) pp.natAbs : Nat) : Int)) d.per.natAbs := Nat.lcm_pos (by rw [Int.natAbs_natCast]; exact h3) (by omega)
        show (0 : Int) < ((Nat.lcm (Int.natAbs ((Nat.lcm (Int.natAbs 1) pp.natAbs : Nat) : Int)) d.per.natAbs : Nat) : Int)
        omega }
/-! ### fitting -/
theorem still_in {W : Wd} (O : WOk W) {l : List Tri} (hin : ∀ x ∈ l, inW W (x.1, x.2.2)) (t wd : Int) : ∀ x ∈ stillF W l t wd, inW W (x.1, x.2.2) := fun x hx => by
  unfold stillF at hx
  obtain ⟨y, hy, h⟩ := List.mem_filterMap.mp hx
  by_cases hw : (sqF W (y.1, y.2.2) t).2 = wd
  · rw [if_pos hw] at h
    cases h
    exact (land_in O (hin y hy) t).1
  · rw [if_neg hw] at h
    cases h
theorem still_len (W : Wd) (l : List Tri) (t wd : Int) : (stillF W l t wd).length ≤ l.length := List.length_filterMap_le ..
theorem fitL_snoc (W : Wd) : ∀ (log : List (Int × Int)) (last : Int) (l : List Tri) (e : Int × Int), fitL W last l (log ++ [e]) = stillF W (fitL W last l log) (e.1 - (match log.getLast? with | some z => z.1 | none => last)) e.2
  | [], last, l, e => rfl
  | (t, wd) :: log, last, l, e => by
    show fitL W t (stillF W l (t - last) wd) (log ++ [e]) = _
    rw [fitL_snoc W log t _ e]
    show _ = stillF W (fitL W t (stillF W l (t - last) wd) log) (e.1 - (match ((t, wd) :: log).getLast? with | some z => z.1 | none => last)) e.2
    cases log with
    | nil => rfl
    | cons a r =>
      rw [List.getLast?_cons_cons]
      cases h : (a :: r).getLast? with
      | none => simp at h
      | some z => rfl
theorem len_allP {W : Wd} (O : WOk W) : (allP W).length ≤ 144 := by
  unfold allP
  rw [List.length_flatMap]
  have e : (List.range W.ks.length).map (fun k : Nat => ((List.range W.N.toNat).map fun x : Nat => ((k : Int), (x : Int))).length) = List.replicate W.ks.length W.N.toNat := by
    rw [List.eq_replicate_iff]
    refine ⟨by rw [List.length_map, List.length_range], fun b hb => ?_⟩
    obtain ⟨a, _, rfl⟩ := List.mem_map.mp hb
    rw [List.length_map, List.length_range]
  rw [e, List.sum_replicate_nat]
  have h2 : W.N.toNat ≤ 48 := by have := O.n2; omega
  show W.ks.length * W.N.toNat ≤ 3 * 48
  exact Nat.mul_le_mul O.k3 h2
def spFitting (K : PySem.W.Frag) (c : Cs) : Sp := fun vs H Q _ => ∃ (a b : Addr) (W : Wd) (xs : List V) (log : List (Int × Int)), vs = [.ref a, .ref b] ∧ JawsAt c H a W ∧ WOk W ∧ H b = some (.lst xs) ∧ DpAll K H xs (log.map prD) ∧
  ∀ H' r ys, Same H H' → H' r = some (.lst ys) → (∃ g : Tri → Int, DpAll K H' ys ((fitL W 0 (triP W) log).map fun x => trD (x.1, x.2.1, g x))) → Q (.ref r) H'
abbrev s_fitting : Stmt := top 53
theorem c_fitting : FnScope ["jaws", "log", "left", "last", "turn", "width", "kind", "x", "begin"] ["jaws", "log"] (defScope s_fitting) := ⟨rfl, rfl, rfl, by decide +kernel, rfl, by decide +kernel, by decide +kernel⟩
theorem b_fitting : Bnd0 "fitting" "fitting" s_fitting ["jaws", "log"] := fun _ _ _ _ _ _ us hl => match us, hl with | [_, _], _ => rfl
theorem d_fitting (T : Tx K mg c) : Df P w K mg base CX0 3 "fitting" (spFitting K c) := by
  refine df_0 T.D_fitting c_fitting b_fitting (fun vs H Q E h => ?_) fun f cdv A outer s H vs Q E hr h => ?_
  · obtain ⟨a, b, W, xs, log, rfl, _⟩ := h
    rfl
  · obtain ⟨a, b, W, xs, log, rfl, J, O, hb, hda, q⟩ := h
    have hl : xs.length = log.length := by have := dpAll_len hda; rw [List.length_map] at this; exact this
    have h144 := len_allP O
    refine ⟨_, (pss_cons (ps_setLc (i := 2) (own := [("kind", 6), ("x", 7)]) (g := (gTup K 2 (gCons (gName 6) (gCons (gName 7) gNil)))) (tt := tYes) (by rfl) c_fitting.nd rfl rfl (sw_true rfl rfl rfl (by decide +kernel)) (pi_tup (pe_M0 (pv 0) (e_Jaws_all_pairs T) (hr.mono (by decide)) pass0)) (blkOk_by (own := [("kind", 6), ("x", 7)]) (N := ["jaws", "log", "left", "last", "turn", "width", "kind", "x", "begin"]) (sc := defScope s_fitting) (by decide +kernel)) (fun _ _ _ _ _ => (pg_tup rfl (pgs_cons (pg_name (i := 6) c_fitting.nd rfl (Or.inl rfl)) (pgs_cons (pg_name (i := 7) c_fitting.nd rfl (Or.inl rfl)) pgs_nil)))) (fun _ _ _ _ _ => pts_nil) (fun _ _ _ _ _ => (pe_tup (pa_cons (pv 6) (pa_cons (pv 7) (pa_cons (pv 7) pa_nil))))))
      (pss_cons (ps_set (i := 3) c_fitting.nd rfl (Or.inr rfl) pe_int)
      (pss_cons (ps_for PassesOwn.never rfl (pi_list (pv 1)) (pg_tup rfl (pgs_cons (pg_name (i := 4) c_fitting.nd rfl (Or.inl rfl)) (pgs_cons (pg_name (i := 5) c_fitting.nd rfl (Or.inl rfl)) pgs_nil)))
      (pss_cons (ps_set (i := 2) c_fitting.nd rfl (Or.inl rfl) (pe_D (d_still_fitting T) (hr.mono (by first | decide | omega)) rfl pass0 (pa_cons (pv 0) (pa_cons (pv 2) (pa_cons (pe_op op_sub (pv 4) (pv 3)) (pa_cons (pv 5) pa_nil))))))
      (pss_one (ps_set (i := 3) c_fitting.nd rfl (Or.inr rfl) (pv 4)))))
      (pss_one (ps_ret (pe_lc (own := [("kind", 6), ("begin", 8), ("x", 7)]) (g := (gTup K 3 (gCons (gName 6) (gCons (gName 8) (gCons (gName 7) gNil))))) (tt := tYes) (by rfl) c_fitting.nd (pi_list (pv 2)) (blkOk_by (own := [("kind", 6), ("begin", 8), ("x", 7)]) (N := ["jaws", "log", "left", "last", "turn", "width", "kind", "x", "begin"]) (sc := defScope s_fitting) (by decide +kernel)) (fun _ _ _ _ _ => (pg_tup rfl (pgs_cons (pg_name (i := 6) c_fitting.nd rfl (Or.inl rfl)) (pgs_cons (pg_name (i := 8) c_fitting.nd rfl (Or.inl rfl)) (pgs_cons (pg_name (i := 7) c_fitting.nd rfl (Or.inl rfl)) pgs_nil))))) (fun _ _ _ _ _ => pts_nil) (fun _ _ _ _ _ => (pe_tup (pa_cons (pv 6) (pa_cons (pv 8) (pa_cons (pe_op op_mod (pe_op op_add (pv 7) (pv 3)) (show PE _ _ (tFld K (tVar 0) "ring") from pe_fld (pv 0) rfl)) pa_nil))))))))))), ?_⟩
    obtain ⟨dx, l1, g1, s1, h1, _⟩ := J.ob
    refine ⟨_, rfl, a, dx, _, rfl, h1, (by unfold jawsFs; kernel_rfl), a, W, rfl, J, O, fun H1 p e1 hp => ?_⟩
    obtain ⟨p', ps, ep, hps, hpa⟩ := dp_tup hp
    cases ep
    have hpl : ps.length = (allP W).length := by have := dpAll_len hpa; rw [List.length_map] at this; exact this
    refine ⟨p, rfl, ⟨ps, hps⟩, fun D hD => lc_fm walk_tup (fun i => ((allP W)[i]?).map fun r => ((r.1, r.2, r.2) : Tri)) (fun r y H => Dp K H y (trD r)) hD (fun H4 e4 => same_sqT e4 hps) (by omega) (fun _ _ _ _ _ hD' e h => tr_but hD' e h) ?_ ?_⟩
    · rintro i x H4 H5 Cy Cn hi e4 ⟨rfl, hx⟩ hy _
      obtain ⟨r, hrow, hdx⟩ := dpAll_item hpa hx
      obtain ⟨qa, rfl, hqa⟩ := dp_pr hdx
      refine ⟨qa, _, rfl, same_sqT e4 hqa, rfl, _, _, rfl, _, _, rfl, rfl, rfl, ?_⟩
      refine ⟨_, rfl, _, rfl, _, rfl, (by show 3 ≤ sizeLine; decide), fun u hu => ?_⟩
      exact hy (r.1, r.2, r.2) _ _ (by rw [hrow]; rfl) (same_new hu) (tr_dp (SqT.of upd_same))
    · intro H4 acc e4 hacc hpd
      rw [hpl, fm_map] at hpd
      have e14 := e1.trans e4
      refine ⟨_, rfl, b, rfl, ⟨xs, SqL.of (e14 _ _ hb)⟩, for_it walk_list (fun i σ H2 => Same H H2 ∧ ∃ (L : Addr) (ys : List V) (x4 x5 x6 x7 x8 : Option V), σ = [some (.ref a), some (.ref b), some (.ref L), some (.int (match (log.take i).getLast? with | some z => z.1 | none => 0)), x4, x5, x6, x7, x8] ∧ H2 L = some (.lst ys) ∧ DpAll K H2 ys ((fitL W 0 (triP W) (log.take i)).map trD) ∧ (∀ x ∈ fitL W 0 (triP W) (log.take i), inW W (x.1, x.2.2)) ∧ (fitL W 0 (triP W) (log.take i)).length ≤ 144)
        ⟨e14, D, acc, none, none, none, none, none, rfl, hacc, dpAll_of hpd, fun x hx => ?_, by show (triP W).length ≤ 144; unfold triP; rw [List.length_map]; exact h144⟩ (fun i σ H2 _ z => SqL.of (z.1 _ _ hb)) ?_ ?_⟩
      · obtain ⟨y, hy, rfl⟩ := List.mem_map.mp hx
        exact mem_allP hy
      · rintro i y σ H2' H2 hi ⟨e2, L, ys, x4, x5, x6, x7, x8, rfl, hL, hdL, hin, hlen⟩ ⟨rfl, hy⟩
        obtain ⟨e, he, hde⟩ := dpAll_item hda hy
        obtain ⟨qa, rfl, hqa⟩ := dp_pr hde
        have htk : log.take (i + 1) = log.take i ++ [e] := by rw [List.take_succ, he]; rfl
        refine ⟨qa, _, rfl, same_sqT e2 hqa, rfl, _, _, rfl, _, _, rfl, rfl, ?_⟩
        refine ⟨_, rfl, _, rfl, _, rfl, _, rfl, _, _, rfl, rfl, _, rfl, a, L, _, e.2, W, ys, _, rfl, J.same e2, O, hL, hdL, hin, by omega, fun H3 r zs e3 hr3 hd3 => ?_⟩
        refine ⟨_, rfl, e2.trans e3, r, zs, some (.int e.1), some (.int e.2), x6, x7, x8, ?_, hr3, ?_, ?_, ?_⟩
        · rw [htk, List.getLast?_append]
          rfl
        · rw [htk, fitL_snoc]
          exact hd3
        · rw [htk, fitL_snoc]
          exact still_in O hin _ _
        · rw [htk, fitL_snoc]
          exact Nat.le_trans (still_len ..) hlen
      · rintro σ H2 ⟨e2, L, ys, x4, x5, x6, x7, x8, rfl, hL, hdL, hin, hlen⟩
        rw [hl, List.take_length] at hdL hin hlen ⊢
        have hyl : ys.length = (fitL W 0 (triP W) log).length := by have := dpAll_len hdL; rw [List.length_map] at this; exact this
        obtain ⟨dx2, l2, g2, s2, h2, _⟩ := (J.same e2).ob
        have hN := O.n1
        generalize hlast : (match log.getLast? with | some z => z.1 | none => 0) = last
        refine ⟨_, rfl, L, rfl, ⟨ys, SqL.of hL⟩, fun D2 hD2 => lc_fm walk_list (fun i => ((fitL W 0 (triP W) log)[i]?).map fun x => ((x.1, x.2.1, (x.2.2 + last) % W.N) : Tri)) (fun r y H => Dp K H y (trD r)) hD2 (fun H4 e4 => SqL.of (e4 _ _ hL)) (by omega) (fun _ _ _ _ _ hD' e h => tr_but hD' e h) ?_ ?_⟩
        · rintro i x H4 H5 Cy Cn hi e4 ⟨rfl, hx⟩ hy _
          obtain ⟨r, hrow, hdx⟩ := dpAll_item hdL hx
          obtain ⟨qa, rfl, hqa⟩ := dp_tr hdx
          refine ⟨qa, _, rfl, same_sqT e4 hqa, rfl, _, _, rfl, _, _, rfl, _, _, rfl, rfl, rfl, ?_⟩
          refine ⟨_, rfl, _, rfl, _, rfl, _, rfl, _, _, rfl, rfl, _, rfl, a, c.Ja, dx2, _, _, rfl, e4 _ _ h2, T.cl_Ja, T.n_Ja_ring, jaws_ring, _, _, rfl, rfl, (by show 0 < W.N; omega), (by show 3 ≤ sizeLine; decide), fun u hu => ?_⟩
          exact hy (r.1, r.2.1, (r.2.2 + last) % W.N) _ _ (by rw [hrow]; rfl) (same_new hu) (tr_dp (SqT.of upd_same))
        · intro H4 acc e4 hacc hpd
          rw [hyl, fm_map] at hpd
          refine q H4 D2 acc (e2.trans e4) hacc ⟨fun x => (x.2.2 + last) % W.N, ?_⟩
          have := dpAll_of hpd
          rw [List.map_map] at this
          exact this
/-! ### fits -/
def spFits (K : PySem.W.Frag) (c : Cs) : Sp := fun vs H Q _ => ∃ (pa b : Addr) (N : Int) (pds : List PartD) (xs : List V) (log : List (Int × Int)), vs = [.ref pa, .ref b] ∧ PartsAt K c H pa N pds ∧ 1 ≤ pds.length ∧ pds.length ≤ 3 ∧ (∀ d ∈ pds, PartOk N d) ∧ H b = some (.lst xs) ∧ DpAll K H xs (log.map prD) ∧ log.length ≤ 40 ∧
  ∀ H' r ys, Same H H' → H' r = some (.lst ys) → DpAll K H' ys ((fitsF (wdF N pds) log).map prD) → Q (.ref r) H'
abbrev s_fits : Stmt := top 54
theorem c_fits : FnScope ["parts", "log", "kind", "begin", "_"] ["parts", "log"] (defScope s_fits) := ⟨rfl, rfl, rfl, by decide +kernel, rfl, by decide +kernel, by decide +kernel⟩
theorem b_fits : Bnd0 "fits" "fits" s_fits ["parts", "log"] := fun _ _ _ _ _ _ us hl => match us, hl with | [_, _], _ => rfl
theorem d_fits (T : Tx K mg c) : Df P w K mg base CX0 7 "fits" (spFits K c) := by
  refine df_0 T.D_fits c_fits b_fits (fun vs H Q E h => ?_) fun f cdv A outer s H vs Q E hr h => ?_
  · obtain ⟨pa, b, N, pds, xs, log, rfl, _⟩ := h
    rfl
  · obtain ⟨pa, b, N, pds, xs, log, rfl, hP, l1, l3, hok, hb, hda, hlen, q⟩ := h
    refine ⟨_, (pss_cons (ps_expr (pe_D (d_check_kinds T) (hr.mono (by first | decide | omega)) rfl pass0 (pa_cons (pv 0) (pa_cons pe_int (pa_cons pe_int pa_nil)))))
      (pss_cons (ps_expr (pe_D (d_check_shown T) (hr.mono (by first | decide | omega)) rfl pass0 (pa_cons (pv 0) pa_nil)))
      (pss_cons (ps_expr (pe_D (d_check_log T) (hr.mono (by first | decide | omega)) rfl pass0 (pa_cons (pv 1) pa_nil)))
      (pss_one (ps_ret (pe_lc (own := [("kind", 2), ("begin", 3), ("_", 4)]) (g := (gTup K 3 (gCons (gName 2) (gCons (gName 3) (gCons (gName 4) gNil))))) (tt := tYes) (by rfl) c_fits.nd (pi_list (pe_D (d_fitting T) (hr.mono (by first | decide | omega)) rfl pass0 (pa_cons (pe_New (m_Jaws T) (hr.mono (by first | decide | omega)) rfl pass0 nw_Jaws (pa_cons (pv 0) pa_nil)) (pa_cons (pv 1) pa_nil)))) (blkOk_by (own := [("kind", 2), ("begin", 3), ("_", 4)]) (N := ["parts", "log", "kind", "begin", "_"]) (sc := defScope s_fits) (by decide +kernel)) (fun _ _ _ _ _ => (pg_tup rfl (pgs_cons (pg_name (i := 2) c_fits.nd rfl (Or.inl rfl)) (pgs_cons (pg_name (i := 3) c_fits.nd rfl (Or.inl rfl)) (pgs_cons (pg_name (i := 4) c_fits.nd rfl (Or.inl rfl)) pgs_nil))))) (fun _ _ _ _ _ => pts_nil) (fun _ _ _ _ _ => (pe_tup (pa_cons (pv 2) (pa_cons (pv 3) pa_nil)))))))))), ?_⟩
    refine ⟨_, rfl, pa, N, pds, rfl, hP, l1, l3, fun H1 e1 => ?_⟩
    refine ⟨_, rfl, pa, N, pds, rfl, hP.same e1, fun H2 e2 => ?_⟩
    have e12 := e1.trans e2
    refine ⟨_, rfl, b, xs, log, rfl, e12 _ _ hb, dpAll_same e12 _ _ hda, hlen, fun H3 e3 => ?_⟩
    have e13 := e12.trans e3
    refine ⟨_, rfl, pa, N, pds, rfl, hP.same e13, l1, l3, hok, fun p H4 e4 hj => ?_⟩
    have e14 := e13.trans e4
    refine ⟨_, rfl, p, b, wdF N pds, xs, log, rfl, hj, wOk l1 l3 hok, e14 _ _ hb, dpAll_same e14 _ _ hda, fun H5 r ys e5 hr5 ⟨g, hd5⟩ => ?_⟩
    have hyl : ys.length = (fitL (wdF N pds) 0 (triP (wdF N pds)) log).length := by have := dpAll_len hd5; rw [List.length_map] at this; exact this
    have h144 : (fitL (wdF N pds) 0 (triP (wdF N pds)) log).length ≤ 144 := by
      have : ∀ (log : List (Int × Int)) (last : Int) (l : List Tri), (fitL (wdF N pds) last l log).length ≤ l.length := by
        intro log
        induction log with
        | nil => intro last l; exact Nat.le_refl _
        | cons e r ih => intro last l; exact Nat.le_trans (ih _ _) (still_len ..)
      refine Nat.le_trans (this log 0 _) ?_
      unfold triP
      rw [List.length_map]
      exact len_allP (wOk l1 l3 hok)
    refine ⟨r, rfl, ⟨ys, SqL.of hr5⟩, fun D hD => lc_fm walk_list (fun i => ((fitL (wdF N pds) 0 (triP (wdF N pds)) log)[i]?).map fun x => ((x.1, x.2.1) : Pr)) (fun r y H => Dp K H y (prD r)) hD (fun H6 e6 => SqL.of (e6 _ _ hr5)) (by omega) (fun _ _ _ _ _ hD' e h => pr_but hD' e h) ?_ ?_⟩
    · rintro i x H6 H7 Cy Cn hi e6 ⟨rfl, hx⟩ hy _
      obtain ⟨t, hrow, hdx⟩ := dpAll_item (enc := fun x : Tri => trD (x.1, x.2.1, g x)) hd5 hx
      obtain ⟨qa, rfl, hqa⟩ := dp_tr hdx
      refine ⟨qa, _, rfl, same_sqT e6 hqa, rfl, _, _, rfl, _, _, rfl, _, _, rfl, rfl, rfl, ?_⟩
      refine ⟨_, rfl, _, rfl, (by show 2 ≤ sizeLine; decide), fun u hu => ?_⟩
      exact hy (t.1, t.2.1) _ _ (by rw [hrow]; rfl) (same_new hu) (pr_dp (SqT.of upd_same))
    · intro H6 acc e6 hacc hpd
      rw [hyl, fm_map] at hpd
      exact q H6 D acc (e14.trans (e5.trans e6)) hacc (dpAll_of hpd)
end
end L2.Jw
set_option Elab.async false
set_option linter.all false
set_option maxRecDepth 100000
set_option maxHeartbeats 4000000
namespace L2.Jw
open PySem PySem.Spec PyProof.Rows
/-! ### set(xs), xs a long list of pairs of which few are different -/
section
variable {P : Program} {w : World} {A : Around} {E : Value → Shared → Prop} {s : Shared}
/-- a set as set() makes it -/
abbrev emptySet (w : World) : Obj := { cls := .type "set", dict := none, data := .set #[] 0 (.fresh 0 0 (!w.params.followText "set-order")) }
abbrev listIt (l : Addr) : Obj := { cls := .type "list_iterator", data := .fields #[.ref l, .int 0 0] }
/-- the heap as the round of set(xs) finds it: a new set, a new iterator -/
abbrev twoMore (w : World) (h : Heap) (l : Addr) : Heap := (h.push (emptySet w)).push (listIt l)
theorem two_keep {h : Heap} {l b : Addr} {o : Obj} (e : h.get? b = some o) : (twoMore w h l).get? b = some o := Heap.get?_push_of_some _ (Heap.get?_push_of_some _ e)
theorem two_set {h : Heap} {l : Addr} : (twoMore w h l).get? h.objs.size = some (emptySet w) := Heap.get?_push_of_some _ (Heap.get?_push_size _ rfl)
set_option maxHeartbeats 8000000 in
/-- set(xs): all but its round -/
theorem set_round {l : Addr} {items : Array Value} {Fin : Shared → Prop} {Q : Value → Shared → Prop} (hl : s.heap.IsList l items)
    (round : ∀ (B : Around) (R : Result → Shared → Prop), B = A.in1.in1 → (∀ s', Fin s' → R (.ok (.ret .none)) s') → codeAny (model P w) B (.builtin "set.update.loop" ⟨[.ref s.heap.objs.size, .ref (s.heap.objs.size + 1)], []⟩) R { s with heap := twoMore w s.heap l })
    (fin : ∀ s', Fin s' → ∃ h' tk, s' = { s with heap := h', toks := tk } ∧ Q (.ref s.heap.objs.size) s') : wpAny (model P w) A (call (.type "set") [.ref l]) Q E s := by
  obtain ⟨cm, cr, mro⟩ := F.called_set.mro
  have made := F.called_set.made
  have under := F.called_set.sub
  refine wpAny_call (codeAny_of_tree ?_)
  show wpAny _ _ (callAny (.type "set") _) _ _ _
  refine wpAny_pure ⟨Code.quiet_builtin _ (by decide +kernel), codeAny_builtin F.entry_type_call ?_⟩
  rw [Around.under_plain (weight_type_call_type "set" [.ref l] []) rfl]
  have k1 := F.called_set.notType
  have k2 := F.called_set.canCreate
  have k3 := F.typeCall_set_1 (.ref l)
  repeat (any_goals (first | assumption | wp_step))
  have new1 : (s.heap.push (emptySet w)).get? s.heap.objs.size = some (emptySet w) := Heap.get?_push_size _ rfl
  refine codeAny_mono (code_set_led1 (.ref l) (E := E) (Q₁ := fun y z => y = .ref s.heap.objs.size ∧ z = { s with heap := s.heap.push (emptySet w) }) ⟨rfl, rfl⟩) fun res z hres => ?_
  rcases res with er | fl
  · exact hres
  cases fl with
  | next => exact hres.elim
  | brk => exact hres.elim
  | cont => exact hres.elim
  | ret y =>
    obtain ⟨rfl, rfl⟩ := hres
    have isSet : Shared.TypeIs { s with heap := s.heap.push (emptySet w) } (.ref s.heap.objs.size) "set" := ⟨_, new1, rfl⟩
    have k4 := F.called_set.init.lookup
    have k5 := F.called_set.init.bind (.ref s.heap.objs.size)
    repeat (any_goals (first | assumption | wp_step))
    refine codeAny_mono (codeAny_call_builtin (R := wants (fun y z => y = .none ∧ Fin z) E) F.called_set.init.plain F.entry_set_init (check_set_init_1 isSet ?_)) fun res z hres => ?_
    · obtain ⟨⟨oc, od, dt, osl⟩, at_, cl, nn, ed⟩ := hl
      simp only at cl ed
      subst cl
      subst ed
      have at1 : (s.heap.push (emptySet w)).get? l = some { cls := .type "list", dict := od, data := .seq items nn, slots := osl } := Heap.get?_push_of_some _ at_
      have k6 := F.sub_list_set
      have k7 := F.sub_list_frozenset
      have k8 : (Value.type "list" == Value.type "dict") = false := by decide
      have list1 : (s.heap.push (emptySet w)).IsList l items := ⟨_, at1, rfl, nn, rfl⟩
      unfold Builtin.«set.__init__» noKeywords Builtin.Frozenset.updateFrom
      generalize gen : pyIter = G
      wp_walk
      subst gen
      refine wpAny_pyIter_list list1 (wpAny_bind (wpAny_runValue ?_))
      have sz : (s.heap.push (emptySet w)).objs.size = s.heap.objs.size + 1 := Heap.size_push ..
      rw [sz]
      refine round _ _ rfl fun z hz => ?_
      show wpAny _ _ _ _ _ _
      refine wpAny_pure ?_
      show wpAny _ _ (ret Value.none) _ _ _
      exact wpAny_pure ⟨rfl, hz⟩
    · rcases res with er | fl
      · exact hres
      cases fl with
      | next => exact hres.elim
      | brk => exact hres.elim
      | cont => exact hres.elim
      | ret y =>
        obtain ⟨rfl, hz⟩ := hres
        obtain ⟨h', tk, rfl, hq⟩ := fin z hz
        repeat (any_goals (first | assumption | wp_step))
end
end L2.Jw
set_option Elab.async false
set_option linter.all false
set_option maxRecDepth 100000
set_option maxHeartbeats 4000000
namespace L2.Jw
open PySem PySem.Spec PyProof.Rows
section
variable {P : Program} {w : World}
/-- the round of set(xs): few are different -/
theorem fill_long {A : Around} {It T : Addr} {fp wr : List Addr} {G : Array GenState → Array GenState → Prop} {n : Nat} {Pv : Nat → Value → Prop} {St : Nat → Shared → Prop} {R : Result → Shared → Prop} (W : WalksS P w A.in1 It fp wr G n Pv St) {ks : List (Addr × List Int)} (hn : ks.length = n)
    (few : ∀ L : List (Addr × List Int), (L.map (·.2)).Nodup → (∀ q ∈ L, q ∈ ks) → L.length < 63) (pv : ∀ j u, Pv j u → ∃ q, ks[j]? = some q ∧ u = .ref q.1) {g : Heap} (tup : ∀ q ∈ ks, IsT P w g q.2 q.1) (hT : T ∉ fp) (T0 : g.get? T = none) (w0 : ∀ b ∈ wr, g.get? b = none) (room : A.in1.units < cLine) :
    ∀ (d j : Nat) (z : Shared), j + d = n → St j z → (∀ b o, g.get? b = some o → z.heap.get? b = some o) → (∃ L es ep t, SetTR P w z.heap T L es ep t ∧ Got ks j L) →
      (∀ y, Moved (T :: wr) G z y → (∀ b o, g.get? b = some o → y.heap.get? b = some o) → (∃ L es ep t, SetTR P w y.heap T L es ep t ∧ Got ks n L) → R (.ok (.ret .none)) y) →
      codeAny (model P w) A (.builtin "set.update.loop" ⟨[.ref T, .ref It], []⟩) R z := by
  have offT : T ∉ wr := fun m => hT (W.sub _ m)
  have wide : ∀ {b : Addr}, b ∈ wr → b ∈ T :: wr := fun m => List.mem_cons_of_mem _ m
  have go : ∀ {x y : Shared}, Moved wr G x y → (∀ b o, g.get? b = some o → x.heap.get? b = some o) → ∀ b o, g.get? b = some o → y.heap.get? b = some o := fun mv k b o e => mv.heap b o (fun m => nomatch (w0 b m).symm.trans e) (k b o e)
  have sit : ∀ {x y : Shared} {L : List (Addr × List Int)} {es : Array (Int × Value)} {ep : Nat} {t : SetTable} {j : Nat}, Moved wr G x y → SetTR P w x.heap T L es ep t → Got ks j L → (∀ b o, g.get? b = some o → y.heap.get? b = some o) → SetTR P w y.heap T L es ep t := fun mv S got k =>
    S.keep (fun o e => mv.heap T o offT e) fun q hq => isT_keep (tup q (List.mem_of_mem_take (got.sub q hq))) k
  intro d
  induction d with
  | zero =>
    rintro j z hj st k ⟨L, es, ep, t, S, got⟩ done
    obtain rfl : j = n := hj
    refine codeAny_builtin PyProof.Rows.F.entry_set_update_loop ?_
    rw [Around.under_plainId PyProof.Rows.F.plain_set_update_loop _]
    show wpAny _ A.in1 (pyNext (.ref It) >>= _) _ _ z
    refine wpAny_bind (W.done z _ _ st fun y mv => ?_)
    have ky := go mv k
    show wpAny _ A.in1 (ret Value.none) _ _ y
    exact wpAny_pure (done y (mv.mono fun b m => wide m) ky ⟨L, es, ep, t, sit mv S got ky, got⟩)
  | succ d ih =>
    rintro j z hj st k ⟨L, es, ep, t, S, got⟩ done
    refine codeAny_builtin PyProof.Rows.F.entry_set_update_loop ?_
    rw [Around.under_plainId PyProof.Rows.F.plain_set_update_loop _]
    show wpAny _ A.in1 (pyNext (.ref It) >>= _) _ _ z
    refine wpAny_bind (W.item j z _ _ (by omega) st fun u y hu st' mv => ?_)
    obtain ⟨⟨b0, q0⟩, hq, rfl⟩ := pv j u hu
    have ky := go mv k
    have Sy := sit mv S got ky
    have isq : IsT P w y.heap q0 b0 := isT_keep (tup _ (List.mem_of_getElem? hq)) ky
    have less : L.length < 63 := few L S.nd fun q m => List.mem_of_mem_take (got.sub q m)
    show wpAny _ A.in1 (holding [Value.ref b0] (setAdd T (.ref b0)) >>= _) _ _ y
    refine wpAny_bind (wpAny_holding ?_)
    unfold setAdd
    refine wpAny_holding (wpAny_bind (wpAny_pyHash_tuple room isq ?_))
    refine add_at (s := { y with toks := y.toks + (q0.length + 1) }) Sy isq room (by omega) fun bb h2 L2 es2 ep2 t2 sb S2 old new => ?_
    have got2 : Got ks (j + 1) L2 := (Classical.em (q0 ∈ L.map (·.2))).elim (fun m => (old m).symm ▸ got.same hq m) fun m => got.more hq (new m)
    have k2 : ∀ b o, g.get? b = some o → h2.get? b = some o := fun b o e => by
      rw [sb.2 b (fun m => nomatch (m ▸ T0).symm.trans e)]
      exact ky b o e
    have st2 : St (j + 1) { y with heap := h2, toks := y.toks + (q0.length + 1) } := W.frame _ y _ _ st' (Nat.le_add_right _ _) fun b m o e => by
      rw [sb.2 b (fun e2 => hT (e2 ▸ m))]
      exact e
    refine wpAny_pure ⟨plainId_quiet PyProof.Rows.F.plain_set_update_loop _, ih (j + 1) _ (by omega) st2 k2 ⟨L2, es2, ep2, t2, S2, got2⟩ fun x mv2 kx res => done x ?_ kx res⟩
    refine Moved.trans W.gtrans ((mv.mono fun b m => wide m).then_heap (Nat.le_add_right _ _) fun b o m e => ?_) mv2
    rw [sb.2 b (fun e2 => m (e2 ▸ List.mem_cons_self))]
    exact e
end
def rSetLong (K : PySem.W.Frag) (P : Program) (w : World) : List V → Hp → VK → Prop := fun xs H Q => ∃ (l : Addr) (ks : List (Addr × List Int)), xs = [V.ref l] ∧ SqL K H l (ks.map fun p => V.ref p.1) ∧ (∀ p ∈ ks, SqT K H p.1 (p.2.map V.int)) ∧
  (∀ L : List (Addr × List Int), (L.map (·.2)).Nodup → (∀ p ∈ L, p ∈ ks) → L.length < 63) ∧ ∀ a L, H a = none → (∀ p ∈ L, p ∈ ks) → (∀ p ∈ ks, p.2 ∈ L.map (·.2)) → Q (.ref a) (upd H a (SetTO P w a L))
theorem cr_setLong {X : Cx} (hc : X.calm = true) (hu : X.A.units + 64 < cLine) : CallR X (.type "set") (rSetLong X.K X.prog X.w) := by
  rintro pins s σ H _ us Q I r ⟨l, ks, rfl, hl, htup, few, q⟩
  cases Vals.ref1 r
  obtain ⟨its, vals, at_, small⟩ := I.list hl
  have items : its = ks.map fun p => Value.ref p.1 := refs_of_vals vals
  have hh : X.A.handled = none := I.ok.hd hc
  have lists : s.heap.IsList l its.toArray := at_.isList
  have lt : l < s.heap.objs.size := by
    obtain ⟨o, e, _⟩ := lists
    exact Heap.lt_size e
  have free : ∀ {b : Addr}, s.heap.objs.size ≤ b → s.heap.get? b = none := fun {b} hb => by
    cases e : s.heap.get? b with
    | none => rfl
    | some o => exact absurd (Heap.lt_size e) (Nat.not_lt.mpr hb)
  have hfr : H s.heap.objs.size = none := I.hok.fresh (Nat.le_refl _)
  refine set_round (Fin := fun y => y.gens = s.gens ∧ y.drawn = s.drawn ∧ y.os = s.os ∧ (∀ b o, s.heap.get? b = some o → y.heap.get? b = some o) ∧ ∃ L es ep t, SetTR X.prog X.w y.heap s.heap.objs.size L es ep t ∧ Got ks ks.length L) lists (fun B R hB hR => ?_) (fun y hy => ?_)
  · subst hB
    have ne : l ≠ s.heap.objs.size + 1 := Nat.ne_of_lt (Nat.lt_succ_of_lt lt)
    have step := fill_long (A := X.A.in1.in1) (T := s.heap.objs.size) (R := R) ((Walks.list (prog := X.prog) (w := X.w) (A := X.A.in1.in1.in1) (by simp [hh]) (s.heap.objs.size + 1) l ne its.toArray).toS) (ks := ks) (by rw [items]; simp) few (fun j u hu => ?_) (g := s.heap) (fun p hp => I.isT (htup p hp)) (by
        intro m
        rcases List.mem_cons.mp m with e | m
        · exact absurd e (Nat.ne_of_lt (Nat.lt_succ_self _))
        · exact absurd (List.mem_singleton.mp m) (Nat.ne_of_gt lt)) (free (Nat.le_refl _)) (fun b m => free (by rw [List.mem_singleton.mp m]; exact Nat.le_succ _)) (by show X.A.units + 3 < cLine; omega)
    · refine step _ 0 _ (Nat.zero_add _) ?_ (fun b o e => two_keep e) ⟨[], #[], 0, _, setTR_fresh two_set, Got.zero ks⟩ fun y mv ky ⟨L, es, ep, t, S, got⟩ => hR y ⟨mv.gens, mv.drawn, mv.os, ky, L, es, ep, t, S, ?_⟩
      · refine ⟨⟨listIt l, ?_, rfl, rfl⟩, (lists.push _).push _⟩
        have h1 := Heap.get?_push_size (s.heap.push (emptySet X.w)) (o := listIt l) rfl
        rw [Heap.size_push] at h1
        exact h1
      · have : its.toArray.size = ks.length := by rw [items]; simp
        rw [this] at got
        exact got
    · have h1 : its[j]? = some u := by simpa using hu
      rw [items, List.getElem?_map] at h1
      obtain ⟨p, hp, e⟩ := Option.map_eq_some_iff.mp h1
      exact ⟨p, hp, e.symm⟩
  · obtain ⟨yh, yg, yd, yt, yo⟩ := y
    obtain ⟨e1, e2, e3, k, L, es, ep, t, S, got⟩ := hy
    cases e1
    cases e2
    cases e3
    exact ⟨yh, yt, rfl, .ref s.heap.objs.size, upd H s.heap.objs.size (SetTO X.prog X.w s.heap.objs.size L), I.laid (t' := yt) k (Nat.le_refl _) (setTO_new S.t0), rfl, q _ L hfr (fun p hp => List.mem_of_mem_take (got.sub p hp)) fun p hp => got.all p (by rw [List.take_length]; exact hp)⟩
def rTupO (K : PySem.W.Frag) : List V → Hp → VK → Prop := fun xs H Q => ∃ p ys, xs = [.ref p] ∧ ((SqL K H p ys ∧ ∀ l, H l = none → Q (.ref l) (upd H l (.tup ys))) ∨ (SqT K H p ys ∧ Q (.ref p) H))
theorem cr_tupO {X : Cx} : CallR X (.type "tuple") (rTupO X.K) := call_tuple_of
end L2.Jw
set_option Elab.async false
set_option linter.all false
set_option maxRecDepth 100000
set_option maxHeartbeats 4000000
namespace L2.Jw
open PySem PySem.Spec PyProof.Rows
/-! ### the groups -/
abbrev Grp := List (Int × List Pr)
def addG : Grp → Int → Pr → Grp
  | [], w, b => [(w, [b])]
  | (v, l) :: r, w, b => if v = w then (v, l ++ [b]) :: r else (v, l) :: addG r w b
theorem addG_keys {w : Int} {b : Pr} : ∀ {fs : Grp} {x : Int}, x ∈ (addG fs w b).map Prod.fst ↔ x ∈ fs.map Prod.fst ∨ x = w
  | [], x => by simp [addG]
  | (v, l) :: r, x => by
    unfold addG
    by_cases h : v = w
    · rw [if_pos h]
      simp only [List.map_cons, List.mem_cons]
      constructor
      · intro z; exact .inl z
      · rintro (z | z)
        · exact z
        · exact .inl (by rw [z, h])
    · rw [if_neg h]
      simp only [List.map_cons, List.mem_cons]
      rw [addG_keys (fs := r)]
      constructor
      · rintro (z | z | z)
        · exact .inl (.inl z)
        · exact .inl (.inr z)
        · exact .inr z
      · rintro ((z | z) | z)
        · exact .inl z
        · exact .inr (.inl z)
        · exact .inr (.inr z)
theorem addG_nodup {w : Int} {b : Pr} : ∀ {fs : Grp}, (fs.map Prod.fst).Nodup → ((addG fs w b).map Prod.fst).Nodup
  | [], _ => by simp [addG]
  | (v, l) :: r, h => by
    rw [List.map_cons] at h
    obtain ⟨h1, h2⟩ := List.nodup_cons.mp h
    unfold addG
    by_cases e : v = w
    · rw [if_pos e]
      exact h
    · rw [if_neg e, List.map_cons]
      refine List.nodup_cons.mpr ⟨fun z => ?_, addG_nodup h2⟩
      rcases addG_keys.mp z with y | y
      · exact h1 y
      · exact e y
theorem addG_mem {w : Int} {b : Pr} : ∀ {fs : Grp}, (fs.map Prod.fst).Nodup → ∀ {v : Int} {l : List Pr}, (v, l) ∈ addG fs w b → (v ≠ w ∧ (v, l) ∈ fs) ∨ (v = w ∧ ((∃ l0, (w, l0) ∈ fs ∧ l = l0 ++ [b]) ∨ (w ∉ fs.map Prod.fst ∧ l = [b])))
  | [], _, v, l, h => by
    have : (v, l) = (w, [b]) := by simpa [addG] using h
    cases this
    exact .inr ⟨rfl, .inr ⟨by simp, rfl⟩⟩
  | (v0, l0) :: r, hn, v, l, h => by
    rw [List.map_cons] at hn
    obtain ⟨h1, h2⟩ := List.nodup_cons.mp hn
    unfold addG at h
    by_cases e : v0 = w
    · rw [if_pos e] at h
      rcases List.mem_cons.mp h with z | z
      · cases z
        exact .inr ⟨e, .inl ⟨l0, by rw [← e]; exact List.mem_cons_self .., rfl⟩⟩
      · refine .inl ⟨fun y => h1 ?_, List.mem_cons_of_mem _ z⟩
        rw [e, ← y]
        exact List.mem_map.mpr ⟨(v, l), z, rfl⟩
    · rw [if_neg e] at h
      rcases List.mem_cons.mp h with z | z
      · cases z
        exact .inl ⟨e, List.mem_cons_self ..⟩
      · rcases addG_mem h2 z with ⟨y1, y2⟩ | ⟨y1, ⟨l1, y2, y3⟩ | ⟨y2, y3⟩⟩
        · exact .inl ⟨y1, List.mem_cons_of_mem _ y2⟩
        · exact .inr ⟨y1, .inl ⟨l1, List.mem_cons_of_mem _ y2, y3⟩⟩
        · refine .inr ⟨y1, .inr ⟨fun x => ?_, y3⟩⟩
          rw [List.map_cons] at x
          rcases List.mem_cons.mp x with x | x
          · exact e x.symm
          · exact y2 x
theorem beh_snoc (W : Wd) (ps : List Pr) (p : Pr) (t w : Int) : behF W (ps ++ [p]) t w = behF W ps t w ++ (if (sqF W p t).2 = w then [(sqF W p t).1] else []) := by
  unfold behF
  rw [List.filter_append, List.map_append]
  congr 1
  by_cases h : (sqF W p t).2 = w
  · rw [if_pos h]; simp [h]
  · rw [if_neg h]; simp [h]
structure GrpOk (W : Wd) (ps : List Pr) (t : Int) (fs : Grp) : Prop where
  nd : (fs.map Prod.fst).Nodup
  val : ∀ w l, (w, l) ∈ fs → l = behF W ps t w
  key : ∀ w, w ∈ fs.map Prod.fst ↔ ∃ p ∈ ps, (sqF W p t).2 = w
theorem grp_snoc {W : Wd} {ps : List Pr} {t : Int} {fs : Grp} (G : GrpOk W ps t fs) (p : Pr) : GrpOk W (ps ++ [p]) t (addG fs (sqF W p t).2 (sqF W p t).1) where
  nd := addG_nodup G.nd
  val := fun w l h => by
    rw [beh_snoc]
    rcases addG_mem G.nd h with ⟨y1, y2⟩ | ⟨y1, ⟨l1, y2, y3⟩ | ⟨y2, y3⟩⟩
    · rw [if_neg (Ne.symm y1), List.append_nil]
      exact G.val w l y2
    · rw [if_pos y1.symm, y3, ← y1] at *
      rw [G.val _ _ y2]
    · have : behF W ps t w = [] := by
        unfold behF
        have hf : ps.filter (fun p => decide ((sqF W p t).2 = w)) = [] := by
          rw [List.filter_eq_nil_iff]
          intro q hq hz
          exact y2 ((G.key _).mpr ⟨q, hq, by rw [← y1]; exact of_decide_eq_true hz⟩)
        rw [hf]
        rfl
      rw [if_pos y1.symm, y3, this]
      rfl
  key := fun w => by
    rw [addG_keys, G.key]
    constructor
    · rintro (⟨q, h1, h2⟩ | h)
      · exact ⟨q, List.mem_append_left _ h1, h2⟩
      · exact ⟨p, List.mem_append_right _ (List.mem_singleton.mpr rfl), h.symm⟩
    · rintro ⟨q, h1, h2⟩
      rcases List.mem_append.mp h1 with z | z
      · exact .inl ⟨q, z, h2⟩
      · rw [List.mem_singleton.mp z] at h2
        exact .inr h2.symm
theorem widF_of {W : Wd} {ps : List Pr} {t : Int} {fs : Grp} {ns : List Int} (G : GrpOk W ps t fs) (pm : ns.Perm (fs.map Prod.fst)) (hs : ns.Pairwise (· ≤ ·)) : ns = widF W ps t := by
  refine canonI_uniq (pm.nodup_iff.mpr G.nd) hs fun x => ?_
  rw [pm.mem_iff, G.key, List.mem_map]
/-- the rests of a world are few -/
theorem few_rests {W : Wd} (O : WOk W) : ∃ C : List Pr, C.length ≤ 12 ∧ ∀ p t, inW W p → (sqF W p t).1 ∈ C := by
  have key : ∀ (ks : List Kd), (∀ k ∈ ks, ∃ l : List Int, l.length ≤ 4 ∧ ∀ y ∈ k.land, y ∈ l) → ∀ n : Int, ∃ C : List Pr, C.length ≤ 4 * ks.length ∧ ∀ (i : Nat) k y, ks[i]? = some k → y ∈ k.land → (n + i, y) ∈ C := by
    intro ks
    induction ks with
    | nil => intro _ n; exact ⟨[], Nat.le_refl _, fun i k y h => by cases h⟩
    | cons k ks ih =>
      intro h n
      obtain ⟨l, h1, h2⟩ := h k (List.mem_cons_self ..)
      obtain ⟨C, h3, h4⟩ := ih (fun k' hk => h k' (List.mem_cons_of_mem _ hk)) (n + 1)
      refine ⟨l.map (fun y => (n, y)) ++ C, by rw [List.length_append, List.length_map, List.length_cons]; omega, fun i k' y hk hy => ?_⟩
      match i, hk with
      | 0, hk =>
        cases hk
        exact List.mem_append_left _ (List.mem_map.mpr ⟨y, h2 y hy, by rw [show n + ((0 : Nat) : Int) = n by omega]⟩)
      | i + 1, hk =>
        have := h4 i k' y hk hy
        rw [show n + 1 + (i : Int) = n + ((i + 1 : Nat) : Int) by omega] at this
        exact List.mem_append_right _ this
  obtain ⟨C, h1, h2⟩ := key W.ks O.few 0
  refine ⟨C, by have := O.k3; omega, fun p t hp => ?_⟩
  obtain ⟨kd, k1, k2, k3⟩ := kd_at hp
  have h3 := h2 p.1.toNat kd (landF W p t) k1 (by have := (land_in O hp t).2; rw [k2] at this; exact this)
  have e : (0 : Int) + (p.1.toNat : Int) = p.1 := by have := hp.1; omega
  rw [e] at h3
  exact h3
section
variable {P : Program} {w : World} {K : PySem.W.Frag} {mg : Str → Option Value} {base : Heap} {c : Cs}
def FoundX (K : PySem.W.Frag) (H : Hp) (kvs : List (Key × V)) (fs : Grp) : Prop := Paired (fun (q : Int × List Pr) (kv : Key × V) => kv.1 = Sum.inl q.1 ∧ ∃ l, kv.2 = .ref l ∧ RowsAt K H l q.2) fs kvs
theorem FoundX.keep {H H' : Hp} {kvs : List (Key × V)} {fs : Grp} (h : FoundX K H kvs fs) (kT : TKeep K H H') (e : ∀ l xs, H l = some (.lst xs) → H' l = some (.lst xs)) : FoundX K H' kvs fs := Paired.mapP h fun _ _ ⟨a, l, b, xs, d, f⟩ => ⟨a, l, b, xs, e l xs d, prs_tkeep kT f⟩
theorem FoundX.same {H H' : Hp} {kvs : List (Key × V)} {fs : Grp} (h : FoundX K H kvs fs) (e : Same H H') : FoundX K H' kvs fs := h.keep (tkeep_same e) fun _ _ z => e _ _ z
theorem fx_keys {H : Hp} {kvs : List (Key × V)} {fs : Grp} (h : FoundX K H kvs fs) : kvs.map Prod.fst = fs.map fun q => Sum.inl q.1 := by
  induction h with
  | nil => rfl
  | cons a t ih => rw [List.map_cons, List.map_cons, a.1, ih]
theorem fx_none {H : Hp} {kvs : List (Key × V)} {fs : Grp} (h : FoundX K H kvs fs) {w : Int} (hv : valV kvs (Sum.inl w : Key) = none) : w ∉ fs.map Prod.fst := fun hm => by
  have := valV_not hv
  rw [fx_keys h] at this
  obtain ⟨q, hq, e⟩ := List.mem_map.mp hm
  exact this (List.mem_map.mpr ⟨q, hq, by rw [e]⟩)
theorem fx_some {H : Hp} {kvs : List (Key × V)} {fs : Grp} (h : FoundX K H kvs fs) {w : Int} {v : V} (hv : valV kvs (Sum.inl w : Key) = some v) : ∃ l rows, v = .ref l ∧ (w, rows) ∈ fs ∧ RowsAt K H l rows ∧ v ∈ kvs.map Prod.snd := by
  induction h with
  | nil => cases hv
  | @cons q kv fs kvs a t ih =>
    obtain ⟨a1, l, a2, a3⟩ := a
    by_cases e : q.1 = w
    · rw [valV_pos (by rw [a1, e])] at hv
      have hv' := Option.some.inj hv
      rw [a2] at hv'
      exact ⟨l, q.2, hv'.symm, by rw [← e]; exact List.mem_cons_self .., a3, by rw [List.map_cons, a2, hv']; exact List.mem_cons_self ..⟩
    · rw [valV_neg (by rw [a1]; intro y; exact e (Sum.inl.inj y))] at hv
      obtain ⟨l', rows, b1, b2, b3, b4⟩ := ih hv
      exact ⟨l', rows, b1, List.mem_cons_of_mem _ b2, b3, List.mem_cons_of_mem _ b4⟩
theorem addG_new {w : Int} {b : Pr} : ∀ {fs : Grp}, w ∉ fs.map Prod.fst → addG fs w b = fs ++ [(w, [b])]
  | [], _ => rfl
  | (v, l) :: r, h => by
    rw [List.map_cons] at h
    unfold addG
    rw [if_neg (fun z => h (by rw [z]; exact List.mem_cons_self ..)), addG_new (fun z => h (List.mem_cons_of_mem _ z))]
    rfl
theorem fx_upd {H H' : Hp} {w : Int} {l : Addr} {xs : List V} {v : V} {b : Pr} (kT : TKeep K H H') (hl : H l = some (.lst xs)) (hl' : H' l = some (.lst (xs ++ [v]))) (hv : Dp K H' v (prD b)) (hk : ∀ x o, H x = some o → x ≠ l → H' x = some o) :
    ∀ {fs : Grp} {kvs : List (Key × V)}, FoundX K H kvs fs → (kvs.map Prod.snd).Nodup → valV kvs (Sum.inl w : Key) = some (.ref l) → FoundX K H' kvs (addG fs w b) := by
  have other : ∀ {fs : Grp} {kvs : List (Key × V)}, FoundX K H kvs fs → V.ref l ∉ kvs.map Prod.snd → FoundX K H' kvs fs := by
    intro fs kvs h
    induction h with
    | nil => intro _; exact .nil
    | @cons q kv fs kvs a t ih =>
      intro h2
      rw [List.map_cons] at h2
      obtain ⟨a1, l2, a2, ys, a3, a4⟩ := a
      have n2 : l2 ≠ l := fun z => h2 (by rw [a2, z]; exact List.mem_cons_self ..)
      exact .cons ⟨a1, l2, a2, ys, hk _ _ a3 n2, prs_tkeep kT a4⟩ (ih fun z => h2 (List.mem_cons_of_mem _ z))
  intro fs kvs h
  induction h with
  | nil => intro _ h; cases h
  | @cons q kv fs kvs a t ih =>
    intro h2 h3
    rw [List.map_cons] at h2
    obtain ⟨d3, d4⟩ := List.nodup_cons.mp h2
    obtain ⟨q1, q2⟩ := q
    obtain ⟨a1, l2, a2, ys, a3, a4⟩ := a
    unfold addG
    by_cases e : q1 = w
    · rw [valV_pos (by rw [a1]; exact congrArg Sum.inl e), a2] at h3
      cases h3
      rw [if_pos e]
      refine .cons ⟨a1, l, a2, _, hl', ?_⟩ (other t (by rw [← a2]; exact d3))
      rw [hl] at a3
      cases a3
      rw [List.map_append]
      exact dpAll_app (prs_tkeep kT a4) (dpAll_one hv)
    · rw [valV_neg (by rw [a1]; intro y; exact e (Sum.inl.inj y))] at h3
      rw [if_neg e]
      have n2 : l2 ≠ l := fun z => by
        obtain ⟨_, _, _, _, _, hm⟩ := fx_some t h3
        exact d3 (by rw [a2, z]; exact hm)
      exact .cons ⟨a1, l2, a2, ys, hk _ _ a3 n2, prs_tkeep kT a4⟩ (ih d4 h3)
theorem rows_ks {H : Hp} : ∀ {rows : List Pr} {xs : List V}, DpAll K H xs (rows.map prD) → ∃ ks : List (Addr × List Int), xs = ks.map (fun p => V.ref p.1) ∧ (∀ p ∈ ks, SqT K H p.1 (p.2.map V.int)) ∧ ks.map (·.2) = rows.map fun r => [r.1, r.2]
  | [], _, h => by cases h; exact ⟨[], rfl, (fun p hp => by cases hp), rfl⟩
  | r :: rows, _, h => by
    cases h with
    | cons h1 h2 =>
      obtain ⟨q, rfl, hq⟩ := dp_pr h1
      obtain ⟨ks, e1, e2, e3⟩ := rows_ks h2
      refine ⟨(q, [r.1, r.2]) :: ks, by rw [e1]; rfl, fun p hp => ?_, by rw [List.map_cons, e3]; rfl⟩
      rcases List.mem_cons.mp hp with z | z
      · rw [z]; exact hq
      · exact e2 p z
end
end L2.Jw
set_option Elab.async false
set_option linter.all false
set_option maxRecDepth 100000
set_option maxHeartbeats 4000000
namespace L2.Jw
open PySem PySem.Spec PyProof.Rows
section
variable {P : Program} {w : World} {K : PySem.W.Frag} {mg : Str → Option Value} {base : Heap} {c : Cs}
/-- a dict of the pairs behind each width -/
def PartX (K : PySem.W.Frag) (H : Hp) (kvs : List (Key × V)) (fs : Grp) : Prop := Paired (fun (q : Int × List Pr) (kv : Key × V) => kv.1 = Sum.inl q.1 ∧ Dp K H kv.2 (.tuple (q.2.map prD))) fs kvs
theorem PartX.same {H H' : Hp} {kvs : List (Key × V)} {fs : Grp} (h : PartX K H kvs fs) (e : Same H H') : PartX K H' kvs fs := Paired.mapP h fun _ _ ⟨a, b⟩ => ⟨a, dp_same e _ _ b⟩
theorem px_keys {H : Hp} {kvs : List (Key × V)} {fs : Grp} (h : PartX K H kvs fs) : kvs.map Prod.fst = fs.map fun q => Sum.inl q.1 := by
  induction h with
  | nil => rfl
  | cons a t ih => rw [List.map_cons, List.map_cons, a.1, ih]
/-- what sorted gives of the set, as pairs -/
theorem sorted_rows {H : Hp} {rows : List Pr} {ks L L' : List (Addr × List Int)} (hb : ∀ r ∈ rows, 0 ≤ r.1 ∧ r.1 < 64 ∧ 0 ≤ r.2 ∧ r.2 < 64) (e3 : ks.map (·.2) = rows.map fun r => [r.1, r.2]) (ht : ∀ p ∈ ks, SqT K H p.1 (p.2.map V.int)) (hsub : ∀ p ∈ L, p ∈ ks) (hall : ∀ p ∈ ks, p.2 ∈ L.map (·.2))
    (pm : L'.Perm L) (nd : (L'.map (·.2)).Nodup) (pw : L'.Pairwise (fun q r => TS.code 64 q.2 ≤ TS.code 64 r.2)) : DpAll K H (L'.map fun q => V.ref q.1) ((canon rows).map prD) := by
  have hpair : ∀ q ∈ L', ∃ r ∈ rows, q.2 = [r.1, r.2] := fun q hq => by
    have h1 := hsub q (pm.mem_iff.mp hq)
    have h2 : q.2 ∈ rows.map fun r => [r.1, r.2] := by rw [← e3]; exact List.mem_map.mpr ⟨q, h1, rfl⟩
    obtain ⟨r, hr, e⟩ := List.mem_map.mp h2
    exact ⟨r, hr, e.symm⟩
  have hR : L'.map (fun q => ((q.2.getD 0 0, q.2.getD 1 0) : Pr)) = canon rows := by
    refine canon_uniq ?_ ?_ fun p => ?_
    · rw [List.nodup_iff_pairwise_ne, List.pairwise_map]
      rw [List.nodup_iff_pairwise_ne, List.pairwise_map] at nd
      refine nd.imp_of_mem fun {a b} ha hb' hne e => hne ?_
      obtain ⟨r, _, e1⟩ := hpair a ha
      obtain ⟨r', _, e2⟩ := hpair b hb'
      rw [e1, e2] at e ⊢
      have h1 := (Prod.mk.inj e).1
      have h2 := (Prod.mk.inj e).2
      have h1' : r.1 = r'.1 := h1
      have h2' : r.2 = r'.2 := h2
      rw [h1', h2']
    · rw [List.pairwise_map]
      refine pw.imp_of_mem fun {a b} ha hb' h => ?_
      obtain ⟨r, hr, e1⟩ := hpair a ha
      obtain ⟨r', hr', e2⟩ := hpair b hb'
      rw [e1, e2] at h ⊢
      have B := hb r hr
      have B' := hb r' hr'
      show leP (r.1, r.2) (r'.1, r'.2) = true
      unfold leP
      rw [decide_eq_true_eq]
      rw [code_pair, code_pair] at h
      show r.1 < r'.1 ∨ (r.1 = r'.1 ∧ r.2 ≤ r'.2)
      omega
    · rw [List.mem_map]
      constructor
      · rintro ⟨q, hq, rfl⟩
        obtain ⟨r, hr, e1⟩ := hpair q hq
        rw [e1]
        exact hr
      · intro hp
        have h1 : ([p.1, p.2] : List Int) ∈ ks.map (·.2) := by rw [e3]; exact List.mem_map.mpr ⟨p, hp, rfl⟩
        obtain ⟨k, hk, e1⟩ := List.mem_map.mp h1
        obtain ⟨q, hq, e2⟩ := List.mem_map.mp (hall k hk)
        refine ⟨q, pm.mem_iff.mpr hq, ?_⟩
        have e4 : q.2 = [p.1, p.2] := e2.trans e1
        rw [e4]
        rfl
  rw [← hR, List.map_map]
  have : ∀ {l : List (Addr × List Int)}, (∀ q ∈ l, q ∈ L') → DpAll K H (l.map fun q => V.ref q.1) (l.map (prD ∘ fun q => ((q.2.getD 0 0, q.2.getD 1 0) : Pr))) := by
    intro l
    induction l with
    | nil => intro _; exact .nil
    | cons q l ih =>
      intro h
      refine .cons ?_ (ih fun q' hq' => h q' (List.mem_cons_of_mem _ hq'))
      have hq := h q (List.mem_cons_self ..)
      obtain ⟨r, hr, e1⟩ := hpair q hq
      have hs := ht q (hsub q (pm.mem_iff.mp hq))
      rw [e1] at hs
      show Dp K H (.ref q.1) (prD (q.2.getD 0 0, q.2.getD 1 0))
      rw [e1]
      exact pr_dp hs
  exact this fun q hq => hq
def spParted (K : PySem.W.Frag) (c : Cs) : Sp := fun vs H Q _ => ∃ (a : Addr) (v : V) (t : Int) (W : Wd) (ps : List Pr), vs = [.ref a, v, .int t] ∧ JawsAt c H a W ∧ WOk W ∧ Dp K H v (.tuple (ps.map prD)) ∧ (∀ p ∈ ps, inW W p) ∧ ps.length ≤ 200 ∧
  ∀ H' d kvs, Same H H' → H d = none → H' d = some (.dK kvs) → PartX K H' kvs (partF W ps t) → Q (.ref d) H'
abbrev s_Jaws_parted : Stmt := inC 50 3
theorem c_Jaws_parted : FnScope ["self", "pairs", "turn", "found", "pair", "behind", "width"] ["self", "pairs", "turn"] (defScope s_Jaws_parted) := ⟨rfl, rfl, rfl, by decide +kernel, rfl, by decide +kernel, by decide +kernel⟩
theorem b_Jaws_parted : Bnd0 "parted" "Jaws.parted" s_Jaws_parted ["self", "pairs", "turn"] := fun _ _ _ _ _ _ us hl => match us, hl with | [_, _, _], _ => rfl
theorem e_Jaws_parted (T : Tx K mg c) : Me P w K mg base CX0 2 c.Ja "parted" (spParted K c) := by
  refine me_0 T.cl_Ja T.M_Ja_parted c_Jaws_parted b_Jaws_parted (fun vs H Q E h => ?_) fun f cdv A outer s H vs Q E hr h => ?_
  · obtain ⟨a, v, t, W, ps, rfl, _⟩ := h
    rfl
  · obtain ⟨a, v, t, W, ps, rfl, J, O, hd, hin, hlen, q⟩ := h
    obtain ⟨pa, xs, rfl, hs, hda⟩ := dp_tup hd
    have hl : xs.length = ps.length := by have := dpAll_len hda; rw [List.length_map] at this; exact this
    obtain ⟨C, hC, hCm⟩ := few_rests O
    refine ⟨_, (pss_cons (ps_set (i := 3) c_Jaws_parted.nd rfl (Or.inr rfl) pe_dnewK)
      (pss_cons (ps_for PassesOwn.never rfl (pi_tup (pv 1)) (pg_name (i := 4) c_Jaws_parted.nd rfl (Or.inl rfl))
      (pss_cons (ps_asg (pe_M (pv 0) (e_Jaws_squeezed T) (hr.mono (by first | decide | omega)) pass0 (pa_cons (pv 4) (pa_cons (pv 2) pa_nil))) (pg_tup rfl (pgs_cons (pg_name (i := 5) c_Jaws_parted.nd rfl (Or.inl rfl)) (pgs_cons (pg_name (i := 6) c_Jaws_parted.nd rfl (Or.inl rfl)) pgs_nil))))
      (pss_one (ps_expr (pe_bm PySem.F.plainAttrs_list PySem.F.slot_list_append PySem.F.type_list_append mt_append (pe_dsetd (pv 3) (pv 6) (pe_lst pa_nil) ⟨rfl, rfl, rfl, rfl⟩) (pa_cons (pv 5) pa_nil))))))
      (pss_one (ps_ret (pe_dc (own := [("width", 6)]) (g := (gName 6)) (tt := tYes) (tk := tVar 6) (tv := tCB (rTupO K) (tCons (tCB (rSortedT K P w) (tCons (tCB (rSetLong K P w) (tCons (tDGet (tVar 3) (tVar 6)) tNil)) tNil)) tNil)) (by rfl) c_Jaws_parted.nd (pi_list (pe_callB cr_sortedI (by rfl) T.sorted (by decide +kernel) (pa_cons (pe_callTy (call_list_dK rfl) (by rfl) T.list (by decide +kernel) (pa_cons (pv 3) pa_nil)) pa_nil))) (blkOk_by (own := [("width", 6)]) (N := ["self", "pairs", "turn", "found", "pair", "behind", "width"]) (sc := defScope s_Jaws_parted) (by decide +kernel)) (fun _ _ _ _ _ => (pg_name (i := 6) c_Jaws_parted.nd rfl (Or.inl rfl))) (fun _ _ _ _ _ => pts_nil) (fun _ _ _ _ _ => (pv 6)) (fun _ _ _ _ _ => (pe_callTy cr_tupO (by rfl) T.tuple (by decide +kernel) (pa_cons (pe_callB (cr_sortedT rfl) (by rfl) T.sorted (by decide +kernel) (pa_cons (pe_callTy (cr_setLong rfl hr.units) (by rfl) T.set (by decide +kernel) (pa_cons (pe_dget (hu_of hr) (pv 3) (pv 6) (fun _ _ => rfl)) pa_nil)) pa_nil)) pa_nil)))))))), ?_⟩
    intro d hd0
    have e0 := same_new (o := .dK []) hd0
    refine ⟨_, rfl, pa, rfl, ⟨xs, same_sqT e0 hs⟩, for_it walk_tup (fun i σ H2 => ∃ (kvs : List (Key × V)) (fs : Grp) (x4 x5 x6 : Option V), σ = [some (.ref a), some (.ref pa), some (.int t), some (.ref d), x4, x5, x6] ∧ Same H H2 ∧ H2 d = some (.dK kvs) ∧ kvs.length ≤ i ∧ FoundX K H2 kvs fs ∧ GrpOk W (ps.take i) t fs ∧ (kvs.map Prod.snd).Nodup ∧ (∀ v ∈ kvs.map Prod.snd, ∀ l, v = .ref l → H l = none ∧ ∃ o, H2 l = some o) ∧
        (∀ q ∈ fs, q.2.length ≤ i ∧ ∀ r ∈ q.2, r ∈ C ∧ inW W r))
      ⟨[], [], none, none, none, rfl, e0, upd_same, Nat.le_refl _, .nil, ⟨List.nodup_nil, (fun w l h => by cases h), fun w => ⟨(fun h => by cases h), fun ⟨p, h, _⟩ => by cases h⟩⟩, List.nodup_nil, (fun v h => by cases h), (fun q h => by cases h)⟩ (fun i σ H2 _ ⟨_, _, _, _, _, _, h, _⟩ => same_sqT h hs) ?_ ?_⟩
    · rintro i y σ H2' H2 hi ⟨kvs, fs, x4, x5, x6, rfl, e2, hd2, hkl, hfx, hG, hnd, hfr, hC2⟩ ⟨rfl, hy⟩
      obtain ⟨p, hp, hdp⟩ := dpAll_item hda hy
      have hinp := hin p (List.mem_of_getElem? hp)
      have htk : ps.take (i + 1) = ps.take i ++ [p] := by rw [List.take_succ, hp]; rfl
      obtain ⟨dx, l1, g1, s1, h1, _⟩ := (J.same e2).ob
      refine ⟨_, rfl, a, dx, _, rfl, h1, (by unfold jawsFs; kernel_rfl), _, rfl, _, rfl, a, y, t, W, p, rfl, J.same e2, O, dp_same e2 _ _ hdp, hinp, fun H3 r r2 e3 hr3 hr2 => ?_⟩
      refine ⟨r, _, rfl, hr3, rfl, _, _, rfl, _, _, rfl, rfl, ?_⟩
      have hd3 := e3 _ _ hd2
      have hb3 : (sqF W p t).1 ∈ C ∧ inW W (sqF W p t).1 := ⟨hCm p t hinp, (land_in O hinp t).1⟩
      -- setdefault
      refine ⟨_, rfl, d, rfl, .inl ⟨kvs, .inl hd3⟩, _, rfl, (by show 0 ≤ sizeLine; decide), fun l0 hl0 => ?_⟩
      have e4 := same_new (o := .lst []) hl0
      have hd4 := e4 _ _ hd3
      have dl0 : d ≠ l0 := ne_of_none hd3 hl0
      refine ⟨kvs, Sum.inl (sqF W p t).2, hd4, rfl, small1000 (by omega), fun v hv => ?_, fun hv => ?_⟩
      · -- the list that stands there
        obtain ⟨l, rows, rfl, hm, ⟨ys, hl2, hdr⟩, hms⟩ := fx_some hfx hv
        have hl4 := e4 _ _ (e3 _ _ hl2)
        refine ⟨.inl ⟨rfl, _, SqL.of hl4⟩, _, rfl, l, ys, _, rfl, rfl, hl4, ?_, ?_⟩
        · have := dpAll_len hdr
          rw [List.length_map] at this
          have h9 : rows.length ≤ i := (hC2 _ hm).1
          exact small1000 (by omega)
        · have kT : TKeep K (upd H3 l0 (.lst [])) (upd (upd H3 l0 (.lst [])) l (.lst (ys ++ [.ref r2]))) := lst_tkeep hl4
          have ld : d ≠ l := ne_of hd4 hl4 (by intro z; cases z)
          have lN := (hfr _ hms l rfl).1
          refine ⟨kvs, addG fs (sqF W p t).2 (sqF W p t).1, _, _, _, rfl, same_updO (e2.trans (e3.trans e4)) lN, by rw [upd_ne ld]; exact hd4, Nat.le_succ_of_le hkl, ?_, by rw [htk]; exact grp_snoc hG p, hnd, fun v hv l' hl' => ?_, ?_⟩
          · exact fx_upd kT hl4 upd_same (by
              obtain ⟨r2', er, hr2'⟩ := dp_pr hr2
              cases er
              exact pr_dp (kT _ _ (same_sqT e4 hr2'))) (fun x o e hx => by rw [upd_ne hx]; exact e) (hfx.same (e3.trans e4)) hnd hv
          · obtain ⟨g1, o, g2⟩ := hfr v hv l' hl'
            by_cases hx : l' = l
            · exact ⟨g1, _, by rw [hx]; exact upd_same⟩
            · exact ⟨g1, o, by rw [upd_ne hx]; exact e4 _ _ (e3 _ _ g2)⟩
          · rintro ⟨v, l'⟩ hq
            rcases addG_mem hG.nd hq with ⟨y1, y2⟩ | ⟨y1, ⟨l1, y2, y3⟩ | ⟨y2, y3⟩⟩
            · exact ⟨Nat.le_succ_of_le (hC2 _ y2).1, (hC2 _ y2).2⟩
            · refine ⟨by rw [show (v, l').2 = l' from rfl, y3, List.length_append]; exact Nat.succ_le_succ (hC2 _ y2).1, fun r hr => ?_⟩
              rw [show (v, l').2 = l' from rfl, y3] at hr
              rcases List.mem_append.mp hr with z | z
              · exact (hC2 _ y2).2 r z
              · rw [List.mem_singleton.mp z]; exact hb3
            · refine ⟨by rw [show (v, l').2 = l' from rfl, y3]; exact Nat.succ_le_succ (Nat.zero_le _), fun r hr => ?_⟩
              rw [show (v, l').2 = l' from rfl, y3] at hr
              rw [List.mem_singleton.mp hr]; exact hb3
      · -- a new list
        have hnw := fx_none hfx hv
        rw [putK_new _ hv]
        have hl5 : upd (upd H3 l0 (.lst [])) d (.dK (kvs ++ [(Sum.inl (sqF W p t).2, .ref l0)])) l0 = some (.lst []) := by rw [upd_ne dl0.symm, upd_same]
        refine ⟨.inl ⟨rfl, _, SqL.of hl5⟩, _, rfl, l0, [], _, rfl, rfl, hl5, by show 0 < sizeLine; decide, ?_⟩
        have k5 : TKeep K (upd H3 l0 (.lst [])) (upd (upd H3 l0 (.lst [])) d (.dK (kvs ++ [(Sum.inl (sqF W p t).2, .ref l0)]))) := dK_tkeep hd4
        have k6 : TKeep K (upd (upd H3 l0 (.lst [])) d (.dK (kvs ++ [(Sum.inl (sqF W p t).2, .ref l0)]))) (upd (upd (upd H3 l0 (.lst [])) d (.dK (kvs ++ [(Sum.inl (sqF W p t).2, .ref l0)]))) l0 (.lst ([] ++ [.ref r2]))) := lst_tkeep hl5
        have l0N : H l0 = none := (e2.trans e3).free hl0
        have dN : H d = none := hd0
        refine ⟨kvs ++ [(Sum.inl (sqF W p t).2, .ref l0)], addG fs (sqF W p t).2 (sqF W p t).1, _, _, _, rfl, same_updO (same_updO (e2.trans (e3.trans e4)) dN) l0N, by rw [upd_ne dl0, upd_same], by rw [List.length_append]; exact Nat.succ_le_succ hkl, ?_, by rw [htk]; exact grp_snoc hG p, ?_, ?_, ?_⟩
        · rw [addG_new hnw]
          refine paired_snoc (Paired.mapP hfx fun _ _ ⟨a1, l, a2, ys, a3, a4⟩ => ⟨a1, l, a2, ys, by rw [upd_ne (ne_of_none (e3 _ _ a3) hl0), upd_ne (fun z => by rw [z, hd2] at a3; cases a3)]; exact e4 _ _ (e3 _ _ a3), prs_tkeep k6 (prs_tkeep k5 (dpAll_same (e3.trans e4) _ _ a4))⟩) ⟨rfl, l0, rfl, _, upd_same, ?_⟩
          · obtain ⟨r2', er, hr2'⟩ := dp_pr hr2
            cases er
            exact .cons (pr_dp (k6 _ _ (k5 _ _ (same_sqT e4 hr2')))) .nil
        · rw [List.map_append, List.nodup_append]
          refine ⟨hnd, List.nodup_cons.mpr ⟨List.not_mem_nil, List.nodup_nil⟩, fun a' ha b hb e => ?_⟩
          have hb' : b = V.ref l0 := List.mem_singleton.mp hb
          obtain ⟨_, o, g2⟩ := hfr a' ha l0 (e.trans hb')
          have := e3 _ _ g2
          rw [hl0] at this
          cases this
        · intro v hv' l' hl'
          rw [List.map_append] at hv'
          rcases List.mem_append.mp hv' with z | z
          · obtain ⟨g1, o, g2⟩ := hfr v z l' hl'
            have hx : l' ≠ l0 := ne_of_none (e3 _ _ g2) hl0
            by_cases hy2 : l' = d
            · exact ⟨g1, _, by rw [hy2, upd_ne dl0, upd_same]⟩
            · exact ⟨g1, o, by rw [upd_ne hx, upd_ne hy2]; exact e4 _ _ (e3 _ _ g2)⟩
          · rw [List.mem_singleton.mp z] at hl'
            cases hl'
            exact ⟨l0N, _, upd_same⟩
        · rintro ⟨v, l'⟩ hq
          rcases addG_mem hG.nd hq with ⟨y1, y2⟩ | ⟨y1, ⟨l1, y2, y3⟩ | ⟨y2, y3⟩⟩
          · exact ⟨Nat.le_succ_of_le (hC2 _ y2).1, (hC2 _ y2).2⟩
          · exact absurd (List.mem_map.mpr ⟨_, y2, rfl⟩) hnw
          · refine ⟨by rw [show (v, l').2 = l' from rfl, y3]; exact Nat.succ_le_succ (Nat.zero_le _), fun r hr => ?_⟩
            rw [show (v, l').2 = l' from rfl, y3] at hr
            rw [List.mem_singleton.mp hr]; exact hb3
    · rintro σ H2 ⟨kvs, fs, x4, x5, x6, rfl, e2, hd2, hkl, hfx, hG, hnd, hfr, hC2⟩
      rw [hl, List.take_length] at hG
      -- the widths in order
      have hkv : (kvs.map fun kv => kV kv.1) = (fs.map Prod.fst).map V.int := by
        have h1 : (kvs.map fun kv => kV kv.1) = (kvs.map Prod.fst).map kV := by rw [List.map_map]; rfl
        rw [h1, fx_keys hfx, List.map_map, List.map_map]
        rfl
      refine ⟨_, rfl, d, kvs, rfl, hd2, fun l1 hl1 => ?_⟩
      rw [hkv]
      refine ⟨l1, _, rfl, SqL.of upd_same, fun ns l2 pm srt hl2 => ⟨l2, rfl, ⟨_, SqL.of upd_same⟩, ?_⟩⟩
      have hns := widF_of hG pm srt
      subst hns
      have e3 : Same H2 (upd (upd H2 l1 (.lst ((fs.map Prod.fst).map V.int))) l2 (.lst ((widF W ps t).map V.int))) := (same_new hl1).trans (same_new hl2)
      generalize hH3 : upd (upd H2 l1 (.lst ((fs.map Prod.fst).map V.int))) l2 (.lst ((widF W ps t).map V.int)) = H3 at e3
      have hl23 : H3 l2 = some (.lst ((widF W ps t).map V.int)) := by rw [← hH3, upd_same]
      have hwl : (widF W ps t).length ≤ 200 := by
        have := pm.length_eq
        rw [List.length_map] at this
        have h2 := Paired.len hfx
        omega
      intro D hD
      refine dc_it walk_list (fun i H4 => Same H3 H4 ∧ ∃ kvs2, H4 D = some (.dK kvs2) ∧ kvs2.length ≤ i ∧ PartX K H4 kvs2 ((partF W ps t).take i)) ⟨same_new hD, [], upd_same, Nat.le_refl _, .nil⟩ (fun i H4 _ z => SqL.of (z.1 _ _ hl23)) ?_ ?_
      · rintro i y H4' H4 hi ⟨e4, kvs2, hD4, hk2, hpx⟩ ⟨rfl, hy⟩
        obtain ⟨wd, hwd, rfl⟩ := ints_at hy
        have hi' : i < (widF W ps t).length := by rw [List.length_map] at hi; exact hi
        have hmk : wd ∈ fs.map Prod.fst := pm.mem_iff.mp (List.mem_of_getElem? hwd)
        have hfx4 := hfx.same (e3.trans e4)
        have hd4 := e4 _ _ (e3 _ _ hd2)
        have hpt : (partF W ps t)[i]? = some (wd, canon (behF W ps t wd)) := by
          unfold partF
          rw [List.getElem?_map, hwd]
          rfl
        refine ⟨rfl, _, rfl, _, rfl, _, rfl, d, ?_⟩
        cases hv : valV kvs (Sum.inl wd : Key) with
        | none => exact absurd hmk (fx_none hfx hv)
        | some v =>
          obtain ⟨l, rows, rfl, hm, ⟨ys, hl4, hdr⟩, _⟩ := fx_some hfx4 hv
          have hrows := hG.val wd rows hm
          obtain ⟨ks, k1, k2, k3⟩ := rows_ks hdr
          refine ⟨_, rfl, (by rw [← hv]; exact DGet.k (k := Sum.inl wd) hd4), l, ks, rfl, SqL.of (by rw [← k1]; exact hl4), k2, fun L hLn hLs => ?_, fun sa L hsa hsub hall => ?_⟩
          · have : ∀ x ∈ L.map (·.2), x ∈ C.map fun r => [r.1, r.2] := fun x hx => by
              obtain ⟨p, hp, rfl⟩ := List.mem_map.mp hx
              have h2 : p.2 ∈ rows.map fun r => [r.1, r.2] := by rw [← k3]; exact List.mem_map.mpr ⟨p, hLs p hp, rfl⟩
              obtain ⟨r, hr, e⟩ := List.mem_map.mp h2
              exact List.mem_map.mpr ⟨r, ((hC2 _ hm).2 r hr).1, e⟩
            have := nodup_len hLn this
            rw [List.length_map, List.length_map] at this
            omega
          · have hrb : ∀ r ∈ rows, 0 ≤ r.1 ∧ r.1 < 64 ∧ 0 ≤ r.2 ∧ r.2 < 64 := fun r hr => by
              have B := ((hC2 _ hm).2 r hr).2
              have := O.k3
              have := O.n2
              exact ⟨B.1, by have := B.2.1; omega, B.2.2.1, by have := B.2.2.2; omega⟩
            have e5 := same_new (o := SetTO P w sa L) hsa
            refine ⟨sa, L, 2, 64, rfl, upd_same, fun p hp => same_sqT e5 (k2 p (hsub p hp)), by decide, fun p hp => ?_, fun L' so pm' nd' few' pw' hso => ?_⟩
            · have h2 : p.2 ∈ rows.map fun r => [r.1, r.2] := by rw [← k3]; exact List.mem_map.mpr ⟨p, hsub p hp, rfl⟩
              obtain ⟨r, hr, e⟩ := List.mem_map.mp h2
              have B := hrb r hr
              rw [← e]
              refine ⟨rfl, ?_⟩
              intro x hx
              rcases List.mem_cons.mp hx with z | z
              · rw [z]; exact ⟨B.1, B.2.1⟩
              · rw [List.mem_singleton.mp z]; exact ⟨B.2.2.1, B.2.2.2⟩
            · have hsr := sorted_rows hrb k3 k2 hsub hall pm' nd' pw'
              rw [hrows] at hsr
              have e6 := e5.trans (same_new (o := .lst (L'.map fun q => V.ref q.1)) hso)
              refine ⟨so, _, rfl, .inl ⟨SqL.of upd_same, fun ta hta => ?_⟩⟩
              have e7 := e6.trans (same_new (o := .tup (L'.map fun q => V.ref q.1)) hta)
              have hD7 := e7 _ _ hD4
              refine ⟨kvs2, Sum.inl wd, rfl, hD7, small1000 (by omega), same_updO (e4.trans e7) hD, _, upd_same, ?_, ?_⟩
              · have := length_putK kvs2 (Sum.inl wd : Key) (V.ref ta)
                omega
              · have hnew : valV kvs2 (Sum.inl wd : Key) = none := by
                  cases hz : valV kvs2 (Sum.inl wd : Key) with
                  | none => rfl
                  | some z =>
                    exfalso
                    have := valV_in hz
                    rw [px_keys hpx] at this
                    obtain ⟨q', hq', e'⟩ := List.mem_map.mp this
                    obtain ⟨j, hj, ej⟩ := List.getElem_of_mem hq'
                    rw [List.length_take] at hj
                    rw [List.getElem_take] at ej
                    have hj' : (partF W ps t)[j]? = some q' := by rw [List.getElem?_eq_getElem (by omega), ej]
                    unfold partF at hj'
                    rw [List.getElem?_map] at hj'
                    cases hwj : (widF W ps t)[j]? with
                    | none => rw [hwj] at hj'; cases hj'
                    | some wj =>
                      rw [hwj] at hj'
                      cases hj'
                      have ew : wj = wd := Sum.inl.inj e'
                      obtain ⟨b1, c1⟩ := List.getElem?_eq_some_iff.mp hwj
                      obtain ⟨b2, c2⟩ := List.getElem?_eq_some_iff.mp hwd
                      exact absurd (c1.trans (ew.trans c2.symm)) (List.pairwise_iff_getElem.mp (List.nodup_iff_pairwise_ne.mp (nodup_canonI _)) j i b1 b2 (by omega))
                rw [putK_new _ hnew, List.take_succ, hpt]
                have k8 : TKeep K (upd (upd (upd H4 sa (SetTO P w sa L)) so (.lst (L'.map fun q => V.ref q.1))) ta (.tup (L'.map fun q => V.ref q.1))) (upd (upd (upd (upd H4 sa (SetTO P w sa L)) so (.lst (L'.map fun q => V.ref q.1))) ta (.tup (L'.map fun q => V.ref q.1))) D (.dK (kvs2 ++ [(Sum.inl wd, .ref ta)]))) := dK_tkeep hD7
                refine paired_snoc (Paired.mapP (hpx.same e7) fun _ _ ⟨a1, a2⟩ => ⟨a1, prT_tkeep k8 a2⟩) ⟨rfl, prT_tkeep k8 (.tup (SqT.of upd_same) (dpAll_same e7 _ _ hsr))⟩
      · rintro H4 ⟨e4, kvs2, hD4, hk2, hpx⟩
        have hpl : (partF W ps t).take ((widF W ps t).map V.int).length = partF W ps t := by
          rw [List.take_of_length_le]
          unfold partF
          rw [List.length_map, List.length_map]
          exact Nat.le_refl _
        rw [hpl] at hpx
        exact q H4 D kvs2 (e2.trans (e3.trans e4)) ((e2.trans e3).free hD) hD4 hpx
end
end L2.Jw
set_option Elab.async false
set_option linter.all false
set_option maxRecDepth 100000
set_option maxHeartbeats 4000000
namespace L2.Jw
open PySem PySem.Spec PyProof.Rows
theorem ruleD_depth (z : Rl) : (ruleD z).depth = 1 := by simp [ruleD, PyData.depth, PyData.depthAll]
theorem alike_rule (a b : Rl) : PySem.W.alike (ruleD a) (ruleD b) = true := by simp [ruleD, PySem.W.alike, PySem.W.alikeAll]
def redR (N : Int) (r : Rl) : Rl := (r.1 % N, r.2)
/-- the table that a machine keeps -/
structure TbRel (N : Int) (tb tb2 : Tb) : Prop where
  keys : (tb2.map Prod.fst).Perm (tb.map Prod.fst)
  rows : ∀ s rs, tb.lookup s = some rs → ∃ rs', tb2.lookup s = some rs' ∧ rs'.Perm (rs.map (redR N))
def okName (z : Str) : Prop := 1 ≤ z.length ∧ z.length ≤ 12 ∧ ∀ ch ∈ z.cps.toList, ch ∈ (("abcdefghijklmnopqrstuvwxyz" : Str)).cps.toList
theorem okName_start : okName "start" := by
  refine ⟨by decide +kernel, by decide +kernel, ?_⟩
  have : ∀ ch ∈ (("start" : Str)).cps.toList, decide (ch ∈ (("abcdefghijklmnopqrstuvwxyz" : Str)).cps.toList) = true := by
    rw [← List.all_eq_true]
    kernel_rfl
  intro ch h
  exact of_decide_eq_true (this ch h)
theorem okName_b : okName "b" := by
  refine ⟨by decide +kernel, by decide +kernel, ?_⟩
  have : ∀ ch ∈ (("b" : Str)).cps.toList, decide (ch ∈ (("abcdefghijklmnopqrstuvwxyz" : Str)).cps.toList) = true := by
    rw [← List.all_eq_true]
    kernel_rfl
  intro ch h
  exact of_decide_eq_true (this ch h)
section
variable {P : Program} {w : World} {K : PySem.W.Frag} {mg : Str → Option Value} {base : Heap} {c : Cs}
theorem pairedBls {l : List Bool} {acc : List V} (h : Paired (fun (a : Bool) (y : V) => y = V.bl a) l acc) : acc = l.map V.bl := by
  induction h with
  | nil => rfl
  | cons a t ih => rw [a, ih]; rfl
/-! ### is_name -/
def spIsName : Sp := fun vs H Q _ => ∃ z : Str, vs = [.str z] ∧ okName z ∧ ∀ H', Same H H' → Q (.bl true) H'
abbrev s_is_name : Stmt := top 39
theorem c_is_name : FnScope ["thing", "letter"] ["thing"] (defScope s_is_name) := ⟨rfl, rfl, rfl, by decide +kernel, rfl, by decide +kernel, by decide +kernel⟩
theorem b_is_name : Bnd0 "is_name" "is_name" s_is_name ["thing"] := fun _ _ _ _ _ _ us hl => match us, hl with | [_], _ => rfl
theorem d_is_name (T : Tx K mg c) : Df P w K mg base CX0 1 "is_name" spIsName := by
  refine df_0 T.D_is_name c_is_name b_is_name (fun vs H Q E h => ?_) fun f cdv A outer s H vs Q E hr h => ?_
  · obtain ⟨z, rfl, _⟩ := h
    rfl
  · obtain ⟨z, rfl, ⟨o1, o2, o3⟩, q⟩ := h
    refine ⟨_, (pss_one (ps_ret (pe_and (pe_callB call_isi (by rfl) T.isinstance (by decide +kernel) (pa_cons (pv 0) (pa_cons (pe_tyN "str" (by rfl) T.str (by decide +kernel)) pa_nil))) (pe_and (pe_chain op_le op_le pe_int (pe_callB call_len_str (by rfl) T.len (by decide +kernel) (pa_cons (pv 0) pa_nil)) pe_int) (pe_one (pe_callB (cr_all rfl) (by rfl) T.all (by decide +kernel) (pa_cons (pe_lc (own := [("letter", 1)]) (g := (gName 1)) (tt := tYes) (by rfl) c_is_name.nd (pi_str (pv 0)) (blkOk_by (own := [("letter", 1)]) (N := ["thing", "letter"]) (sc := defScope s_is_name) (by decide +kernel)) (fun _ _ _ _ _ => (pg_name (i := 1) c_is_name.nd rfl (Or.inl rfl))) (fun _ _ _ _ _ => pts_nil) (fun _ _ _ _ _ => (pe_cmpR op_in_sign (pv 1) (pe_gS rfl T.LETTERS) (by rfl)))) pa_nil))))))), ?_⟩
    refine ⟨_, rfl, .str z, .ty "str", _, _, true, rfl, .ty _, .base (.str _), kit_ty (by decide +kernel), true, rfl, iteT ?_⟩
    refine ⟨_, rfl, z, rfl, Nat.le_trans o2 (by decide), _, _, rfl, rfl, true, blT (by omega), iteT ⟨_, _, rfl, rfl, true, blT (by omega), iteT ?_⟩⟩
    refine ⟨_, rfl, z, rfl, fun D hD => lc_fm walk_str (fun _ => some true) (fun (a : Bool) y H => y = V.bl a) hD (fun _ _ => True.intro) (Nat.le_trans o2 (by decide)) (fun _ _ _ _ _ _ _ h => h) ?_ ?_⟩
    · rintro i x H4 H5 Cy Cn hi e4 ⟨rfl, ch, hch, rfl⟩ hy _
      have hm : ch ∈ z.cps.toList := by
        rw [← Array.getElem?_toList] at hch
        exact List.mem_of_getElem? hch
      refine ⟨rfl, _, rfl, ch, _, rfl, rfl, ?_⟩
      rw [decide_eq_true (o3 ch hm)]
      exact hy true _ _ rfl (Same.refl _) rfl
    · intro H4 acc e4 hacc hp
      have ha := pairedBls hp
      subst ha
      refine ⟨D, _, rfl, SqL.of hacc, ?_⟩
      have : (((List.range z.cps.size).filterMap fun _ => some true).all id) = true := by
        rw [List.all_eq_true]
        intro b hb
        obtain ⟨_, _, e⟩ := List.mem_filterMap.mp hb
        cases e
        rfl
      rw [this]
      exact q H4 e4
/-! ### is_rule -/
def spIsRule (K : PySem.W.Frag) : Sp := fun vs H Q _ => ∃ (v : V) (d : Addr) (r : Rl) (kvs : List (Key × V)), vs = [v, .ref d] ∧ Dp K H v (ruleD r) ∧ H d = some (.dK kvs) ∧ (∃ z, valV kvs (Sum.inr r.2 : Key) = some z) ∧ Q (.bl true) H
abbrev s_is_rule : Stmt := top 40
theorem c_is_rule : FnScope ["thing", "states"] ["thing", "states"] (defScope s_is_rule) := ⟨rfl, rfl, rfl, by decide +kernel, rfl, by decide +kernel, by decide +kernel⟩
theorem b_is_rule : Bnd0 "is_rule" "is_rule" s_is_rule ["thing", "states"] := fun _ _ _ _ _ _ us hl => match us, hl with | [_, _], _ => rfl
theorem d_is_rule (T : Tx K mg c) : Df P w K mg base CX0 2 "is_rule" (spIsRule K) := by
  refine df_0 T.D_is_rule c_is_rule b_is_rule (fun vs H Q E h => ?_) fun f cdv A outer s H vs Q E hr h => ?_
  · obtain ⟨v, d, r, kvs, rfl, _⟩ := h
    rfl
  · obtain ⟨v, d, r, kvs, rfl, hv, hd, ⟨z, hz⟩, q⟩ := h
    obtain ⟨a, rfl, ha⟩ := dp_rule hv
    refine ⟨_, (pss_cons (ps_if (PW.pt (pw_or (pt_not (pt_val (pe_callB call_isi (by rfl) T.isinstance (by decide +kernel) (pa_cons (pv 0) (pa_cons (pe_tyN "tuple" (by rfl) T.tuple (by decide +kernel)) pa_nil))))) (pw_or1 (pt_cmpR op_ne (pe_callB call_len_seq (by rfl) T.len (by decide +kernel) (pa_cons (pv 0) pa_nil)) pe_int (nomark _))))) (pss_one (ps_ret pe_bl)) pss_nil)
      (pss_one (ps_ret (pe_and (pe_D (d_is_word T) (hr.mono (by first | decide | omega)) rfl pass0 (pa_cons (pe_ix (r := rIxT K) ix_tup (pv 0) pe_int (fun _ _ => rfl)) pa_nil)) (pe_and (pe_D (d_is_integer T) (hr.mono (by first | decide | omega)) rfl pass0 (pa_cons (pe_ix (r := rIxT K) ix_tup (pv 0) pe_int (fun _ _ => rfl)) pa_nil)) (pe_and (pe_callB call_isi (by rfl) T.isinstance (by decide +kernel) (pa_cons (pe_ix (r := rIxT K) ix_tup (pv 0) pe_int (fun _ _ => rfl)) (pa_cons (pe_tyN "str" (by rfl) T.str (by decide +kernel)) pa_nil))) (pe_one (pe_cmp (pc_din (hu_of hr) (pe_ix (r := rIxT K) ix_tup (pv 0) pe_int (fun _ _ => rfl)) (pv 1)) rfl)))))))), ?_⟩
    refine ⟨_, rfl, .ref a, .ty "tuple", _, _, true, rfl, .ty _, tyx_tup ha, kit_ty (by decide +kernel), true, rfl, iteF ?_⟩
    refine ⟨_, rfl, a, _, rfl, .inr ha, rfl, _, rfl, iteF ?_⟩
    refine ⟨_, rfl, a, _, _, _, rfl, rfl, ha, atI0, rfl, true, rfl, iteT ?_⟩
    refine ⟨_, rfl, a, _, _, _, rfl, rfl, ha, atI1, r.1, rfl, true, rfl, iteT ?_⟩
    refine ⟨_, rfl, a, _, _, _, rfl, rfl, ha, atI2, .str r.2, .ty "str", _, _, true, rfl, .ty _, .base (.str _), kit_ty (by decide +kernel), true, rfl, iteT ?_⟩
    refine ⟨_, rfl, a, _, _, _, rfl, rfl, ha, atI2, _, rfl, d, _, rfl, DGet.k (k := Sum.inr r.2) hd, ?_⟩
    rw [hz]
    exact q
/-! ### checked_rules -/
def spCheckedRules (K : PySem.W.Frag) : Sp := fun vs H Q _ => ∃ (N : Int) (d : Addr) (s : Str) (kvs : List (Key × V)) (tb : Tb) (S : List Str) (rs : List Rl), vs = [.int N, .ref d, .str s] ∧ 0 < N ∧ H d = some (.dK kvs) ∧ RulesX K H kvs tb ∧ TbOk S N 7 tb ∧ tb.lookup s = some rs ∧ s ∈ S ∧
  ∀ H' l rs', Same H H' → H l = none → RuleLs K H' l rs' → rs'.Perm (rs.map (redR N)) → Q (.ref l) H'
abbrev s_checked_rules : Stmt := top 41
theorem c_checked_rules : FnScope ["around", "rows", "state", "rules", "rule", "made", "word", "turn", "goal"] ["around", "rows", "state"] (defScope s_checked_rules) := ⟨rfl, rfl, rfl, by decide +kernel, rfl, by decide +kernel, by decide +kernel⟩
theorem b_checked_rules : Bnd0 "checked_rules" "checked_rules" s_checked_rules ["around", "rows", "state"] := fun _ _ _ _ _ _ us hl => match us, hl with | [_, _, _], _ => rfl
theorem d_checked_rules (T : Tx K mg c) : Df P w K mg base CX0 3 "checked_rules" (spCheckedRules K) := by
  refine df_0 T.D_checked_rules c_checked_rules b_checked_rules (fun vs H Q E h => ?_) fun f cdv A outer s H vs Q E hr h => ?_
  · obtain ⟨N, d, s, kvs, tb, S, rs, rfl, _⟩ := h
    rfl
  · obtain ⟨N, d, s, kvs, tb, S, rs, rfl, hN, hd, hrx, hok, hlk, hsS, q⟩ := h
    obtain ⟨l, rs', hvl, hm, hlk', ⟨xs, hl, hda⟩⟩ := rx_get hrx (s := s) (by rw [hok.keys]; exact hsS)
    rw [hlk] at hlk'
    cases hlk'
    have R := hok.rows _ hm
    have R7 : rs.length ≤ 7 := R.len
    have hxl : xs.length = rs.length := by have := dpAll_len hda; rw [List.length_map] at this; exact this
    have hgoal : ∀ r ∈ rs, ∃ z, valV kvs (Sum.inr r.2 : Key) = some z := fun r hr => by
      obtain ⟨l2, rs2, g1, _⟩ := rx_get hrx (s := r.2) (by rw [hok.keys]; exact R.goal r hr)
      exact ⟨_, g1⟩
    refine ⟨_, (pss_cons (ps_set (i := 3) c_checked_rules.nd rfl (Or.inl rfl) (pe_dget (hu_of hr) (pv 1) (pv 2) (fun _ _ => rfl)))
      (pss_cons (ps_if (PW.pt (pw_or (pt_not (pt_val (pe_D (d_is_row T) (hr.mono (by first | decide | omega)) rfl pass0 (pa_cons (pv 3) pa_nil)))) (pw_or1 (pt_cmpR op_gt (pe_callB call_len_seq (by rfl) T.len (by decide +kernel) (pa_cons (pv 3) pa_nil)) (pe_gI rfl T.MOST_RULES) (nomark _))))) (pss_one ps_never) pss_nil)
      (pss_cons (ps_for PassesOwn.never rfl (pi_list (pv 3)) (pg_name (i := 4) c_checked_rules.nd rfl (Or.inl rfl))
      (pss_one (ps_if (pt_not (pt_val (pe_D (d_is_rule T) (hr.mono (by first | decide | omega)) rfl pass0 (pa_cons (pv 4) (pa_cons (pv 1) pa_nil))))) (pss_one ps_never) pss_nil)))
      (pss_cons (ps_set (i := 5) c_checked_rules.nd rfl (Or.inl rfl) (pe_callB (cr_sortD (enc := ruleD) hr.units) (by rfl) T.sorted (by decide +kernel) (pa_cons (pe_lc (own := [("word", 6), ("turn", 7), ("goal", 8)]) (g := (gTup K 3 (gCons (gName 6) (gCons (gName 7) (gCons (gName 8) gNil))))) (tt := tYes) (by rfl) c_checked_rules.nd (pi_list (pv 3)) (blkOk_by (own := [("word", 6), ("turn", 7), ("goal", 8)]) (N := ["around", "rows", "state", "rules", "rule", "made", "word", "turn", "goal"]) (sc := defScope s_checked_rules) (by decide +kernel)) (fun _ _ _ _ _ => (pg_tup rfl (pgs_cons (pg_name (i := 6) c_checked_rules.nd rfl (Or.inl rfl)) (pgs_cons (pg_name (i := 7) c_checked_rules.nd rfl (Or.inl rfl)) (pgs_cons (pg_name (i := 8) c_checked_rules.nd rfl (Or.inl rfl)) pgs_nil))))) (fun _ _ _ _ _ => pts_nil) (fun _ _ _ _ _ => (pe_tup (pa_cons (pv 6) (pa_cons (pe_op op_mod (pv 7) (pv 0)) (pa_cons (pv 8) pa_nil)))))) pa_nil)))
      (pss_cons (ps_if (pt_cmpR op_ne (pe_lenSC (own := [("word", 6), ("turn", 7), ("goal", 8)]) (g := (gTup K 3 (gCons (gName 6) (gCons (gName 7) (gCons (gName 8) gNil))))) (by rfl) c_checked_rules.nd rfl T.len hr.units (pi_list (pv 5)) (blkOk_by (own := [("word", 6), ("turn", 7), ("goal", 8)]) (N := ["around", "rows", "state", "rules", "rule", "made", "word", "turn", "goal"]) (sc := defScope s_checked_rules) (by decide +kernel)) (fun _ _ _ _ _ => (pg_tup rfl (pgs_cons (pg_name (i := 6) c_checked_rules.nd rfl (Or.inl rfl)) (pgs_cons (pg_name (i := 7) c_checked_rules.nd rfl (Or.inl rfl)) (pgs_cons (pg_name (i := 8) c_checked_rules.nd rfl (Or.inl rfl)) pgs_nil))))) (fun _ _ _ _ _ => (pe_tup (pa_cons (pv 6) (pa_cons (pv 7) pa_nil))))) (pe_callB call_len_seq (by rfl) T.len (by decide +kernel) (pa_cons (pv 5) pa_nil)) (nomark _)) (pss_one ps_never) pss_nil)
      (pss_one (ps_ret (pv 5)))))))), ?_⟩
    refine ⟨_, rfl, _, rfl, d, _, rfl, (by rw [← hvl]; exact DGet.k (k := Sum.inr s) hd), ?_⟩
    refine ⟨_, rfl, l, xs, rfl, hl, fun H1 e1 => ⟨true, rfl, iteF ?_⟩⟩
    refine ⟨_, rfl, l, xs, rfl, .inl (SqL.of (e1 _ _ hl)), _, _, rfl, rfl, _, rfl, itN (by rw [hxl]; omega) ?_⟩
    refine ⟨_, rfl, l, rfl, ⟨xs, SqL.of (e1 _ _ hl)⟩, for_it walk_list (fun i σ H2 => H2 = H1 ∧ ∃ (x4 : Option V), σ = [some (.int N), some (.ref d), some (.str s), some (.ref l), x4, none, none, none, none])
      ⟨rfl, none, rfl⟩ (fun i σ H2 _ z => by rw [z.1]; exact SqL.of (e1 _ _ hl)) ?_ ?_⟩
    · rintro i y σ H2' H2 hi ⟨rfl, x4, rfl⟩ ⟨rfl, hy⟩
      obtain ⟨r, hri, hdr⟩ := dpAll_item hda hy
      exact ⟨_, rfl, _, rfl, y, d, r, kvs, rfl, dp_same e1 _ _ hdr, e1 _ _ hd, hgoal r (List.mem_of_getElem? hri), true, rfl, iteF ⟨rfl, _, rfl⟩⟩
    · rintro σ H2 ⟨rfl, x4, rfl⟩
      refine ⟨_, rfl, l, rfl, ⟨xs, SqL.of (e1 _ _ hl)⟩, fun D hD => lc_fm walk_list (fun i => (rs[i]?).map (redR N)) (fun r y H => Dp K H y (ruleD r)) hD (fun H4 e4 => SqL.of (e4 _ _ (e1 _ _ hl))) (by omega) (fun a y H H' acc hD' e h => ?_) ?_ ?_⟩
      · obtain ⟨q', rfl, hq'⟩ := dp_rule h
        exact rule_dp (but_sqT e hD' hq')
      · rintro i x H4 H5 Cy Cn hi e4 ⟨rfl, hx⟩ hy _
        obtain ⟨r, hrow, hdx⟩ := dpAll_item hda hx
        obtain ⟨qa, rfl, hqa⟩ := dp_rule hdx
        refine ⟨qa, _, rfl, same_sqT (e1.trans e4) hqa, rfl, _, _, rfl, _, _, rfl, _, _, rfl, rfl, rfl, ?_⟩
        refine ⟨_, rfl, _, rfl, _, rfl, _, _, rfl, rfl, hN, _, rfl, (by show 3 ≤ sizeLine; decide), fun u hu => ?_⟩
        exact hy (redR N r) _ _ (by rw [hrow]; rfl) (same_new hu) (rule_dp (SqT.of upd_same))
      · intro H4 acc e4 hacc hp
        rw [hxl, fm_map] at hp
        refine ⟨D, acc, _, rfl, SqL.of hacc, dpAll_of hp, PySem.W.AllAlike.of fun a b => alike_rule a b, PySem.W.Sortable.tuples fun b => ⟨_, _, rfl⟩, fun b _ => by rw [ruleD_depth]; decide, fun L ys hL hys => ?_⟩
        have e5 := same_new (o := .lst ys) hL
        obtain ⟨ms, hms⟩ : ∃ ms, (rs.map (redR N)).mergeSort (PySem.W.dataLe false ruleD) = ms := ⟨_, rfl⟩
        have pm : ms.Perm (rs.map (redR N)) := by rw [← hms]; exact List.mergeSort_perm _ _
        rw [hms] at hys
        have hys5 := dpAll_same e5 _ _ hys
        have hyl : ys.length = ms.length := by have := dpAll_len hys; rw [List.length_map] at this; exact this
        have hml : ms.length ≤ 7 := by rw [pm.length_eq, List.length_map]; exact R7
        have hL5 : upd H4 L (.lst ys) L = some (.lst ys) := upd_same
        refine ⟨_, rfl, L, rfl, ⟨ys, SqL.of hL5⟩, fun D2 hD2 => sc_len (ts := ms.map Prod.fst) (G := fun H => SqL K H L ys) (by rw [List.length_map, ← hyl]; exact walk_list) hD2 (fun H6 e6 => SqL.of (e6 _ _ hL5)) ?_ (by rw [List.length_map]; omega) ?_ (fun H6 L6 e6 hL6 hlen => ⟨D2, L6, rfl, hL6, ?_⟩)⟩
        · have : (ms.map Prod.fst).Perm ((rs.map (redR N)).map Prod.fst) := pm.map _
          rw [this.nodup_iff, List.map_map]
          exact R.nd
        · rintro i x H6 H7 Cy hi e6 ⟨rfl, hx⟩ hCy
          obtain ⟨r, hrow, hdx⟩ := dpAll_item hys5 hx
          obtain ⟨qa, rfl, hqa⟩ := dp_rule hdx
          refine ⟨qa, _, rfl, same_sqT e6 hqa, rfl, _, _, rfl, _, _, rfl, _, _, rfl, rfl, rfl, ?_⟩
          refine ⟨_, rfl, _, rfl, (by show 2 ≤ sizeLine; decide), fun u hu => ?_⟩
          exact hCy _ _ r.1 (same_new hu) (by rw [List.getElem?_map, hrow]; rfl) (.tup (SqT.of upd_same) (.cons (.str _) (.cons (.int _) .nil)))
        · rw [hlen]
          refine ⟨_, rfl, L, ys, rfl, .inl (SqL.of (e6 _ _ hL5)), rfl, _, rfl, inD (by rw [List.length_map, hyl]) ?_⟩
          exact ⟨_, rfl, q H6 L ms (e1.trans (e4.trans (e5.trans e6))) ((e1.trans e4).free hL) ⟨ys, e6 _ _ hL5, dpAll_same e6 _ _ hys5⟩ pm⟩
end
end L2.Jw
set_option Elab.async false
set_option linter.all false
set_option maxRecDepth 100000
set_option maxHeartbeats 4000000
namespace L2.Jw
open PySem PySem.Spec PyProof.Rows
section
variable {P : Program} {w : World} {K : PySem.W.Frag} {mg : Str → Option Value} {base : Heap} {c : Cs}
def letFs (N : Int) (t : Addr) : List (Str × V) := [("around", .int N), ("_table", .ref t)]
theorem let_around {N : Int} {t : Addr} : (letFs N t).lookup ("around" : Str) = some (.int N) := by unfold letFs; kernel_rfl
theorem let_table {N : Int} {t : Addr} : (letFs N t).lookup ("_table" : Str) = some (.ref t) := by unfold letFs; kernel_rfl
structure LetAt (K : PySem.W.Frag) (c : Cs) (H : Hp) (a : Addr) (N : Int) (tb : Tb) : Prop where
  ob : ∃ dx t od kvs, H a = some (.ins c.Le dx (letFs N t)) ∧ H t = some (.frz od (.dK kvs)) ∧ RulesX K H kvs tb
theorem LetAt.same {H H' : Hp} {a : Addr} {N : Int} {tb : Tb} (h : LetAt K c H a N tb) (e : Same H H') : LetAt K c H' a N tb := by
  obtain ⟨dx, t, od, kvs, h1, h2, h3⟩ := h.ob
  exact ⟨dx, t, od, kvs, e _ _ h1, e _ _ h2, h3.same e⟩
/-! ### Let(around, rules) -/
def spLetI (K : PySem.W.Frag) (c : Cs) : Sp := fun vs H Q _ => ∃ (p dx d : Addr) (N : Int) (kvs : List (Key × V)) (tb : Tb) (S : List Str), vs = [.ref p, .int N, .ref d] ∧ H p = some (.ins c.Le dx []) ∧ 2 ≤ N ∧ N ≤ 48 ∧ H d = some (.dK kvs) ∧ RulesX K H kvs tb ∧ TbOk S N 7 tb ∧ S.Nodup ∧ S.length ≤ 5 ∧ ("start" : Str) ∈ S ∧ (∀ s ∈ S, okName s) ∧
  ∀ H' tb2, But p H H' → TbRel N tb tb2 → LetAt K c H' p N tb2 → Q .non H'
abbrev s_Let___init__ : Stmt := inC 42 0
theorem c_Let___init__ : FnScope ["self", "around", "rules", "state"] ["self", "around", "rules"] (defScope s_Let___init__) := ⟨rfl, rfl, rfl, by decide +kernel, rfl, by decide +kernel, by decide +kernel⟩
theorem b_Let___init__ : Bnd0 "__init__" "Let.__init__" s_Let___init__ ["self", "around", "rules"] := fun _ _ _ _ _ _ us hl => match us, hl with | [_, _, _], _ => rfl
theorem m_Let (T : Tx K mg c) : Mkr P w K mg base CX0 4 "Let" c.Le (spLetI K c) := by
  refine mk_0 T.mg_Le T.I_Le c_Let___init__ b_Let___init__ (fun vs H Q E h => ?_) fun f cdv A outer s H vs Q E hr h => ?_
  · obtain ⟨p, dx, d, N, kvs, tb, S, rfl, _⟩ := h
    rfl
  · obtain ⟨p, dx, d, N, kvs, tb, S, rfl, hp, n2, n48, hd, hrx, hok, hSn, hS5, hst, hnm, q⟩ := h
    have hkl : kvs.length = S.length := by
      have h1 := rx_len hrx
      rw [h1, ← hok.keys, List.length_map]
    have hSpos : 0 < S.length := List.length_pos_of_mem hst
    have hkv : (kvs.map fun kv => kV kv.1) = S.map V.str := by
      have h1 : (kvs.map fun kv => kV kv.1) = (kvs.map Prod.fst).map kV := by rw [List.map_map]; rfl
      rw [h1, rx_keys hrx, ← hok.keys, List.map_map, List.map_map]
      rfl
    refine ⟨_, (pss_cons (ps_expr (pe_D (d_check_round T) (hr.mono (by first | decide | omega)) rfl pass0 (pa_cons (pv 1) pa_nil)))
      (pss_cons (ps_if (PW.pt (pw_or (pt_not (pt_val (pe_callB call_isi (by rfl) T.isinstance (by decide +kernel) (pa_cons (pv 2) (pa_cons (pe_tyN "dict" (by rfl) T.dict (by decide +kernel)) pa_nil))))) (pw_or1 (pt_not (pt_chain op_le op_le pe_int (pe_callB call_lenD (by rfl) T.len (by decide +kernel) (pa_cons (pv 2) pa_nil)) (pe_gI rfl T.MOST_STATES)))))) (pss_one ps_never) pss_nil)
      (pss_cons (ps_if (pt_not (pt_val (pe_callB (cr_all rfl) (by rfl) T.all (by decide +kernel) (pa_cons (pe_lock (pe_lc (own := [("state", 3)]) (g := (gName 3)) (tt := tYes) (by rfl) c_Let___init__.nd (pi_keys (pv 2)) (blkOk_by (own := [("state", 3)]) (N := ["self", "around", "rules", "state"]) (sc := defScope s_Let___init__) (by decide +kernel)) (fun _ _ _ _ _ => (pg_name (i := 3) c_Let___init__.nd rfl (Or.inl rfl))) (fun _ _ _ _ _ => pts_nil) (fun _ _ _ _ _ => (pe_D (d_is_name T) (hr.mono (by decide)) rfl pass0 (pa_cons (pv 3) pa_nil))))) pa_nil)))) (pss_one ps_never) pss_nil)
      (pss_cons (ps_if (pt_cmp (pc_dnotin (hu_of hr) (pe_gS rfl T.START) (pv 2))) (pss_one ps_never) pss_nil)
      (pss_cons (ps_fld (pv 0) (pv 1) rfl)
      (pss_one (ps_fld (pv 0) (pe_freeze (pe_dc (own := [("state", 3)]) (g := (gName 3)) (tt := tYes) (by rfl) c_Let___init__.nd (pi_list (pe_callB cr_sortedS (by rfl) T.sorted (by decide +kernel) (pa_cons (pe_callTy (call_list_dK rfl) (by rfl) T.list (by decide +kernel) (pa_cons (pv 2) pa_nil)) pa_nil))) (blkOk_by (own := [("state", 3)]) (N := ["self", "around", "rules", "state"]) (sc := defScope s_Let___init__) (by decide +kernel)) (fun _ _ _ _ _ => (pg_name (i := 3) c_Let___init__.nd rfl (Or.inl rfl))) (fun _ _ _ _ _ => pts_nil) (fun _ _ _ _ _ => (pv 3)) (fun _ _ _ _ _ => (pe_D (d_checked_rules T) (hr.mono (by decide)) rfl pass0 (pa_cons (pv 1) (pa_cons (pv 2) (pa_cons (pv 3) pa_nil))))))) rfl))))))), ?_⟩
    refine ⟨_, rfl, N, rfl, n2, by omega, ?_⟩
    refine ⟨_, rfl, .ref d, .ty "dict", _, _, true, rfl, .ty _, .base (.dK hd), kit_ty (by decide +kernel), true, rfl, iteF ?_⟩
    refine ⟨_, rfl, d, kvs, rfl, hd, _, _, rfl, rfl, true, blT (by omega), iteT ⟨_, _, rfl, rfl, _, rfl, inD (by omega) ?_⟩⟩
    -- the names
    refine ⟨d, .dK kvs, hd, True.intro, fun od => ⟨_, rfl, d, od, rfl, .inl ⟨kvs, upd_same, fun D hD => ?_⟩⟩⟩
    have hkeys : ∀ {i : Nat} {k : Key} {v : V}, kvs[i]? = some (k, v) → ∃ z ∈ S, k = Sum.inr z := fun {i k v} h => by
      obtain ⟨s', rs', l', h1, h2, _⟩ := rx_at hrx h
      exact ⟨s', by rw [← hok.keys]; exact List.mem_map.mpr ⟨_, List.mem_of_getElem? h1, rfl⟩, h2⟩
    refine lc_fm walk_keys (fun _ => some true) (fun (a : Bool) y H => y = V.bl a) hD (fun H4 e4 => e4 _ _ upd_same) (by omega) (fun _ _ _ _ _ _ _ h => h) ?_ ?_
    · rintro i x H4 H5 Cy Cn hi e4 ⟨rfl, k, v, hkv', rfl⟩ hy _
      obtain ⟨z, hz, rfl⟩ := hkeys hkv'
      exact ⟨rfl, _, rfl, z, rfl, hnm z hz, fun H6 e6 => hy true _ _ rfl e6 rfl⟩
    intro H4 acc e4 hacc hpd
    have ha := pairedBls hpd
    subst ha
    have hd4 := e4 _ _ (upd_same (H := H) (a := d) (o := .frz od (.dK kvs)))
    refine ⟨hd4, ?_⟩
    have Dd : D ≠ d := ne_of hacc hd4 (by intro z; cases z)
    have e5 : Same H (upd H4 d (.dK kvs)) := fun x o e => by
      by_cases hx : x = d
      · rw [hx, upd_same, ← hd, ← hx, e]
      · rw [upd_ne hx]
        exact e4 _ _ (by rw [upd_ne hx]; exact e)
    generalize hH5 : upd H4 d (.dK kvs) = H5 at e5
    have hD5 : H5 D = some (.lst (((List.range kvs.length).filterMap fun _ => some true).map V.bl)) := by rw [← hH5, upd_ne Dd]; exact hacc
    refine ⟨D, _, rfl, SqL.of hD5, true, ?_, iteF ?_⟩
    · have : (((List.range kvs.length).filterMap fun _ => some true).all id) = true := by
        rw [List.all_eq_true]
        intro b hb
        obtain ⟨_, _, e⟩ := List.mem_filterMap.mp hb
        cases e
        rfl
      rw [this]
    -- START
    obtain ⟨l0, rs0, hv0, _⟩ := rx_get hrx (s := "start") (by rw [hok.keys]; exact hst)
    refine ⟨_, rfl, d, _, rfl, DGet.k (k := Sum.inr ("start" : Str)) (e5 _ _ hd), _, rfl, ?_⟩
    rw [hv0]
    refine iteF ?_
    -- around
    have hp5 := e5 _ _ hp
    refine ⟨_, rfl, _, rfl, p, c.Le, dx, _, rfl, hp5, T.cl_Le, T.n_Le_around, (by show 0 < 1000; decide), ?_⟩
    obtain ⟨H6, hH6⟩ : ∃ H6, upd H5 p (.ins c.Le dx (putF "around" (.int N) [])) = H6 := ⟨_, rfl⟩
    rw [hH6]
    have b6 : But p H H6 := by rw [← hH6]; exact e5.but.trans but_upd
    have kT6 : TKeep K H H6 := butI_tkeep b6 hp
    have dp : d ≠ p := ne_of hd hp (by intro z; cases z)
    have hd6 := b6 _ _ hd dp
    have hp6 : H6 p = some (.ins c.Le dx (putF "around" (.int N) [])) := by rw [← hH6, upd_same]
    have hrx6 : RulesX K H6 kvs tb := by
      have : ∀ {kvs : List (Key × V)} {tb : Tb}, RulesX K H kvs tb → RulesX K H6 kvs tb := by
        intro kvs tb h
        exact Paired.mapP h fun _ _ ⟨a1, l, a2, xs, a3, a4⟩ => ⟨a1, l, a2, xs, b6 _ _ a3 (ne_of a3 hp (by intro z; cases z)), rules_tkeep kT6 a4⟩
      exact this hrx
    -- the table
    refine ⟨_, rfl, d, kvs, rfl, hd6, fun l1 hl1 => ?_⟩
    rw [hkv]
    refine ⟨l1, S, rfl, SqL.of upd_same, by omega, fun ys l2 pm _ hl2 => ⟨l2, rfl, ⟨_, SqL.of upd_same⟩, ?_⟩⟩
    have e7 : Same H6 (upd (upd H6 l1 (.lst (S.map V.str))) l2 (.lst (ys.map V.str))) := (same_new hl1).trans (same_new hl2)
    generalize hH7 : upd (upd H6 l1 (.lst (S.map V.str))) l2 (.lst (ys.map V.str)) = H7 at e7
    have hl27 : H7 l2 = some (.lst (ys.map V.str)) := by rw [← hH7, upd_same]
    have hyl : ys.length = S.length := pm.length_eq
    have hyn : ys.Nodup := pm.nodup_iff.mpr hSn
    intro D2 hD2
    refine dc_it walk_list (fun i H8 => Same H7 H8 ∧ ∃ kvs2 tb2, H8 D2 = some (.dK kvs2) ∧ RulesX K (dl H8 D2) kvs2 tb2 ∧ tb2.map Prod.fst = ys.take i ∧ ∀ s rs, s ∈ ys.take i → tb.lookup s = some rs → ∃ rs', tb2.lookup s = some rs' ∧ rs'.Perm (rs.map (redR N)))
      ⟨same_new hD2, [], [], upd_same, .nil, rfl, fun s rs h => by simp at h⟩ (fun i H8 _ z => SqL.of (z.1 _ _ hl27)) ?_ ?_
    · rintro i y H8' H8 hi ⟨e8, kvs2, tb2, hD8, hrx2, hk2, hr2⟩ ⟨rfl, hy⟩
      obtain ⟨z, hz, rfl⟩ : ∃ z, ys[i]? = some z ∧ y = V.str z := by
        rw [List.getElem?_map] at hy
        cases e : ys[i]? with
        | none => rw [e] at hy; cases hy
        | some z => rw [e] at hy; exact ⟨z, rfl, (Option.some.inj hy).symm⟩
      have hzS : z ∈ S := pm.mem_iff.mp (List.mem_of_getElem? hz)
      obtain ⟨lz, rsz, hvz, hmz, hlkz, _⟩ := rx_get hrx (s := z) (by rw [hok.keys]; exact hzS)
      have e78 := e7.trans e8
      refine ⟨rfl, _, rfl, _, rfl, _, rfl, _, rfl, N, d, z, kvs, tb, S, rsz, rfl, by omega, e78 _ _ hd6, hrx6.same e78, hok, hlkz, hzS, fun H9 L rs' e9 hL hRL hperm => ?_⟩
      have hD9 := e9 _ _ hD8
      have LD : L ≠ D2 := (ne_of_none hD8 hL).symm
      have hznew : z ∉ tb2.map Prod.fst := by
        rw [hk2]
        intro hm
        obtain ⟨j, hj, e⟩ := List.getElem_of_mem hm
        rw [List.length_take] at hj
        rw [List.getElem_take] at e
        obtain ⟨hi', e'⟩ := List.getElem?_eq_some_iff.mp hz
        exact absurd (e.trans e'.symm) (List.pairwise_iff_getElem.mp (List.nodup_iff_pairwise_ne.mp hyn) j i (by omega) hi' (by omega))
      have hk5 : kvs2.length ≤ 5 := by
        have h1 := rx_len hrx2
        have h2 := congrArg List.length hk2
        rw [List.length_map, List.length_take] at h2
        omega
      have hnew := rx_none hrx2 hznew
      refine ⟨kvs2, Sum.inr z, rfl, hD9, small1000 (by omega), same_updO (e8.trans e9) hD2, kvs2 ++ [(Sum.inr z, .ref L)], tb2 ++ [(z, rs')], by rw [putK_new _ hnew, upd_same], ?_, ?_, ?_⟩
      · have kd : TKeep K H9 (dl (upd H9 D2 (.dK (putK kvs2 (Sum.inr z) (.ref L)))) D2) := fun b zs hs => by
          rcases hs with (hs | ⟨o, hs⟩) | hs
          · have nb : b ≠ D2 := fun zz => by rw [zz, hD9] at hs; cases hs
            exact .inl (.inl (by rw [dl_ne nb, upd_ne nb]; exact hs))
          · have nb : b ≠ D2 := fun zz => by rw [zz, hD9] at hs; cases hs
            exact .inl (.inr ⟨o, by rw [dl_ne nb, upd_ne nb]; exact hs⟩)
          · exact .inr hs
        obtain ⟨xs, g1, g2⟩ := hRL
        refine paired_snoc (Paired.mapP hrx2 fun _ _ ⟨a1, l, a2, ws, a3, a4⟩ => ⟨a1, l, a2, ws, ?_, rules_tkeep (fun b zs h => kd _ _ (same_sqT e9 h)) (rules_tkeep (fun b zs h => by
            rcases h with (h | ⟨o, h⟩) | h
            · exact .inl (.inl (dl_some h).1)
            · exact .inl (.inr ⟨o, (dl_some h).1⟩)
            · exact .inr h) a4)⟩) ⟨rfl, L, rfl, xs, by rw [dl_ne LD, upd_ne LD]; exact g1, rules_tkeep kd g2⟩
        obtain ⟨h1, h2⟩ := dl_some a3
        rw [dl_ne h2, upd_ne h2]
        exact e9 _ _ h1
      · rw [List.map_append, hk2, List.take_succ, hz]
        rfl
      · intro s rs hs hlk
        rw [List.take_succ, hz] at hs
        rcases List.mem_append.mp hs with hs | hs
        · obtain ⟨rs'', h1, h2⟩ := hr2 s rs hs hlk
          exact ⟨rs'', by rw [List.lookup_append, h1]; rfl, h2⟩
        · have : s = z := by simpa using hs
          subst this
          rw [hlkz] at hlk
          cases hlk
          refine ⟨rs', ?_, hperm⟩
          have hn : tb2.lookup s = none := by
            rw [List.lookup_eq_none_iff]
            intro q hq
            have : ¬ s = q.1 := fun e => hznew (by rw [e]; exact List.mem_map.mpr ⟨q, hq, rfl⟩)
            simpa using this
          rw [List.lookup_append, hn]
          simp [List.lookup]
    · rintro H8 ⟨e8, kvs2, tb2, hD8, hrx2, hk2, hr2⟩
      refine ⟨D2, .dK kvs2, rfl, hD8, True.intro, fun od2 => ?_⟩
      have e78 := e7.trans e8
      have hp8 := e78 _ _ hp6
      have pD2 : p ≠ D2 := ne_of hp8 hD8 (by intro z; cases z)
      refine ⟨_, rfl, p, c.Le, dx, _, rfl, by rw [upd_ne pD2]; exact hp8, T.cl_Le, T.n_Le__table, (by show 1 < 1000; decide), ?_⟩
      have hyt : ys.take (ys.map V.str).length = ys := by rw [List.length_map, List.take_length]
      rw [hyt] at hk2 hr2
      have hD2N : H7 D2 = none := hD2
      have b9 : But p H (upd (upd H8 D2 (.frz od2 (.dK kvs2))) p (.ins c.Le dx (putF "_table" (.ref D2) (putF "around" (.int N) [])))) := fun x o e hx => by
        have h6 := b6 x o e hx
        rw [upd_ne hx, upd_ne (ne_of_none (e7 _ _ h6) hD2N)]
        exact e78 _ _ h6
      refine q _ tb2 b9 ⟨by rw [hk2, hok.keys]; exact pm, fun s rs hlk => ?_⟩ ⟨dx, D2, od2, kvs2, ?_, by rw [upd_ne pD2.symm, upd_same], ?_⟩
      · have hsS : s ∈ ys := by
          refine pm.mem_iff.mpr ?_
          rw [← hok.keys]
          have : (s, rs) ∈ tb := by
            have : ∀ {tb : Tb}, tb.lookup s = some rs → (s, rs) ∈ tb := by
              intro tb
              induction tb with
              | nil => intro h; cases h
              | cons a t ih =>
                intro h
                obtain ⟨a1, a2⟩ := a
                rw [List.lookup_cons] at h
                by_cases e : s = a1
                · subst e
                  simp at h
                  rw [h]
                  exact List.mem_cons_self ..
                · have e' : (s == a1) = false := by simpa using e
                  rw [e'] at h
                  exact List.mem_cons_of_mem _ (ih h)
            exact this hlk
          exact List.mem_map.mpr ⟨_, this, rfl⟩
        exact hr2 s rs hsS hlk
      · rw [upd_same]
        exact congrArg (fun l => some (HO.ins c.Le dx l)) (by unfold letFs; kernel_rfl)
      · have kF : TKeep K (dl H8 D2) (upd (upd H8 D2 (.frz od2 (.dK kvs2))) p (.ins c.Le dx (putF "_table" (.ref D2) (putF "around" (.int N) [])))) := fun b zs hs => by
          rcases hs with (h | ⟨o, h⟩) | h
          · obtain ⟨h1, h2⟩ := dl_some h
            exact .inl (.inl (by rw [upd_ne (fun z => by rw [z, hp8] at h1; cases h1), upd_ne h2]; exact h1))
          · obtain ⟨h1, h2⟩ := dl_some h
            exact .inl (.inr ⟨o, by rw [upd_ne (fun z => by rw [z, hp8] at h1; cases h1), upd_ne h2]; exact h1⟩)
          · exact .inr h
        refine Paired.mapP hrx2 fun _ _ ⟨a1, l, a2, ws, a3, a4⟩ => ⟨a1, l, a2, ws, ?_, rules_tkeep kF a4⟩
        obtain ⟨h1, h2⟩ := dl_some a3
        rw [upd_ne (fun z => by rw [z, hp8] at h1; cases h1), upd_ne h2]
        exact h1
def spLetN (K : PySem.W.Frag) (c : Cs) : Sp := fun vs H Q _ => ∃ (d : Addr) (N : Int) (kvs : List (Key × V)) (tb : Tb) (S : List Str), vs = [.int N, .ref d] ∧ 2 ≤ N ∧ N ≤ 48 ∧ H d = some (.dK kvs) ∧ RulesX K H kvs tb ∧ TbOk S N 7 tb ∧ S.Nodup ∧ S.length ≤ 5 ∧ ("start" : Str) ∈ S ∧ (∀ s ∈ S, okName s) ∧
  ∀ p H' tb2, Same H H' → TbRel N tb tb2 → LetAt K c H' p N tb2 → Q (.ref p) H'
theorem nw_Let : ∀ (vs : List V) (H : Hp) (Q : VK), spLetN K c vs H Q E0 → ∀ x dx, H x = none → H dx = none → dx ≠ x → spLetI K c (V.ref x :: vs) (upd (upd H dx (.own x)) x (.ins c.Le dx [])) (fun v H2 => v = .non ∧ Q (.ref x) H2) E0 := by
  rintro vs H Q ⟨d, N, kvs, tb, S, rfl, n2, n48, hd, hrx, hok, hSn, hS5, hst, hnm, q⟩ x dx hx hdx hne
  have e := same_made (C := c.Le) hx hdx
  exact ⟨x, dx, d, N, kvs, tb, S, rfl, upd_same, n2, n48, e _ _ hd, hrx.same e, hok, hSn, hS5, hst, hnm, fun H' tb2 b hr hl => ⟨rfl, q x H' tb2 (b.same e hx) hr hl⟩⟩
/-! ### let.rules(state) -/
def spRulesM (K : PySem.W.Frag) (c : Cs) : Sp := fun vs H Q _ => ∃ (a : Addr) (N : Int) (tb : Tb) (s : Str) (rs : List Rl), vs = [.ref a, .str s] ∧ LetAt K c H a N tb ∧ tb.lookup s = some rs ∧ ∀ H' l, Same H H' → H l = none → RuleLs K H' l rs → Q (.ref l) H'
abbrev s_Let_rules : Stmt := inC 42 4
theorem c_Let_rules : FnScope ["self", "state"] ["self", "state"] (defScope s_Let_rules) := ⟨rfl, rfl, rfl, by decide +kernel, rfl, by decide +kernel, by decide +kernel⟩
theorem b_Let_rules : Bnd0 "rules" "Let.rules" s_Let_rules ["self", "state"] := fun _ _ _ _ _ _ us hl => match us, hl with | [_, _], _ => rfl
theorem e_Let_rules (T : Tx K mg c) : Me P w K mg base CX0 1 c.Le "rules" (spRulesM K c) := by
  refine me_0 T.cl_Le T.M_Le_rules c_Let_rules b_Let_rules (fun vs H Q E h => ?_) fun f cdv A outer s H vs Q E hr h => ?_
  · obtain ⟨a, N, tb, s, rs, rfl, _⟩ := h
    rfl
  · obtain ⟨a, N, tb, st, rs, rfl, ⟨dx, t, od, kvs, h1, h2, h3⟩, hlk, q⟩ := h
    have hm : st ∈ tb.map Prod.fst := by
      cases hz : decide (st ∈ tb.map Prod.fst) with
      | true => exact of_decide_eq_true hz
      | false =>
        exfalso
        have hn : tb.lookup st = none := by
          rw [List.lookup_eq_none_iff]
          intro q hq
          have : ¬ st = q.1 := fun e => (of_decide_eq_false hz) (by rw [e]; exact List.mem_map.mpr ⟨q, hq, rfl⟩)
          simpa using this
        rw [hn] at hlk
        cases hlk
    obtain ⟨l, rs', hv, _, hlk', xs, hl, hda⟩ := rx_get h3 hm
    rw [hlk] at hlk'
    cases hlk'
    have hg : DGet H t (.str st) (some (.ref l)) := .inl ⟨kvs, Sum.inr st, .inr ⟨od, h2⟩, rfl, hv.symm⟩
    refine ⟨_, (pss_cons (ps_if (PW.pt (pw_or (pt_not (pt_val (pe_callB call_isi (by rfl) T.isinstance (by decide +kernel) (pa_cons (pv 1) (pa_cons (pe_tyN "str" (by rfl) T.str (by decide +kernel)) pa_nil))))) (pw_or1 (pt_cmp (pc_dnotin (hu_of hr) (pv 1) (pe_fld (pv 0) rfl)))))) (pss_one ps_never) pss_nil)
      (pss_one (ps_ret (pe_callTy call_list_of (by rfl) T.list (by decide +kernel) (pa_cons (pe_dget (hu_of hr) (pe_fld (pv 0) rfl) (pv 1) (fun _ _ => rfl)) pa_nil))))), ?_⟩
    refine ⟨_, rfl, .str st, .ty "str", _, _, true, rfl, .ty _, .base (.str _), kit_ty (by decide +kernel), true, rfl, iteF ?_⟩
    refine ⟨_, rfl, _, rfl, a, c.Le, dx, _, _, rfl, h1, T.cl_Le, T.n_Le__table, let_table, t, _, rfl, hg, _, rfl, iteF ?_⟩
    refine ⟨_, rfl, a, c.Le, dx, _, _, rfl, h1, T.cl_Le, T.n_Le__table, let_table, _, rfl, t, _, rfl, hg, l, xs, rfl, .inl (SqL.of hl), fun l2 hl2 => ?_⟩
    exact q _ l2 (same_new hl2) hl2 ⟨xs, upd_same, rules_tkeep (tkeep_same (same_new hl2)) hda⟩
end
end L2.Jw
set_option Elab.async false
set_option linter.all false
set_option maxRecDepth 100000
set_option maxHeartbeats 4000000
namespace L2.Jw
open PySem PySem.Spec PyProof.Rows
section
variable {P : Program} {w : World} {K : PySem.W.Frag} {mg : Str → Option Value} {base : Heap} {c : Cs}
theorem inV_push {ws : List V} (h : ∀ v ∈ ws, v = V.str "squeeze") : inV (V.str "push") ws = false := by
  unfold inV
  rw [List.any_eq_false]
  intro v hv
  rw [h v hv]
  have : eqV (V.str "squeeze") (V.str "push") = false := by kernel_rfl
  rw [this]
  exact Bool.false_ne_true
theorem wkC {J : It} {n : Nat} {G : Hp → Prop} {Y : Nat → Hp → V → Hp → Prop} (w : Walk J n G Y) {B : V → Hp → (Hp → Prop) → Prop} {H0 : Hp} {Qd : Hp → Prop} (Pv : Nat → Hp → Prop) (h0 : Pv 0 H0) (hG : ∀ i H, i ≤ n → Pv i H → G H)
    (hs : ∀ i x H H', i < n → Pv i H → Y i H x H' → B x H' (Pv (i + 1))) (hd : ∀ H, Pv n H → Qd H) :
    ∃ W : Nat → Nat → Hp → Prop, (∃ m, W 0 m H0) ∧ ∀ i m H, W i m H → (J.stop i H ∧ Qd H) ∨ (J.go i H ∧ ∃ Nx : Hp → Prop, (∀ H', Nx H' → ∃ m', m' < m ∧ W (i + 1) m' H') ∧ ∀ x H', J.yld i H x H' → B x H' Nx) := wk w Pv h0 hG hs hd
/-! ### let.words -/
def spWordsL (K : PySem.W.Frag) (c : Cs) : Sp := fun vs H Q _ => ∃ (a : Addr) (N : Int) (tb : Tb), vs = [.ref a] ∧ LetAt K c H a N tb ∧ tb.length ≤ 5 ∧ (∀ q ∈ tb, q.2.length ≤ 7) ∧ ∀ H' l ws, Same H H' → H' l = some (.lst ws) → (∀ v ∈ ws, v = V.str "squeeze") → Q (.ref l) H'
abbrev s_Let_words : Stmt := inC 42 2
theorem c_Let_words : FnScope ["self", "word", "row", "rule"] ["self"] (defScope s_Let_words) := ⟨rfl, rfl, rfl, by decide +kernel, rfl, by decide +kernel, by decide +kernel⟩
theorem b_Let_words : Bnd0 "words" "Let.words" s_Let_words ["self"] := fun _ _ _ _ _ _ us hl => match us, hl with | [_], _ => rfl
theorem p_Let_words (T : Tx K mg c) : ∃ p g fd, PropOf K c.Le "words" p g ∧ FnOk P w K mg base CX0 1 g fd ["self"] (spWordsL K c) ∧ Binds K fd ["self"] [] := by
  refine pr_0 T.P_Le_words c_Let_words b_Let_words (fun vs H Q E h => ?_) fun f cdv A outer s H vs Q E hr h => ?_
  · obtain ⟨a, N, tb, rfl, _⟩ := h
    rfl
  · obtain ⟨a, N, tb, rfl, ⟨dx, t, od, kvs, h1, h2, h3⟩, htl, hrl, q⟩ := h
    refine ⟨_, (pss_one (ps_ret (pe_lc (own := [("word", 1)]) (g := (gName 1)) (tt := tB (tCB (rAny K) (tCons (tLc2 (iVals (tFld K (tVar 0) "_table")) (gName 2) tYes (iList K (tVar 2)) (gName 3) tYes (tOp rEq (tVar 1) (tOp (rIxT K) (tVar 3) (tC (.int 0)))) [2, 3] [3]) tNil))) (by rfl) c_Let_words.nd (pi_tup (pe_gR rfl T.WORDS)) (blkOk_by (own := [("word", 1)]) (N := ["self", "word", "row", "rule"]) (sc := defScope s_Let_words) (by decide +kernel)) (fun _ _ _ _ _ => (pg_name (i := 1) c_Let_words.nd rfl (Or.inr rfl))) (fun _ _ _ _ _ => (pts_one (pt_val (pe_callB (cr_any rfl) (by rfl) T.any (by decide +kernel) (pa_cons (pe_lc2 (own := [("row", 2), ("rule", 3)]) (g := (gName 2)) (tt := tYes) (g1 := (gName 3)) (tt1 := tYes) (vs1 := [3]) (by rfl) c_Let_words.nd (pi_values (show PE _ _ (tFld K (tVar 0) "_table") from pe_fld (pv 0) rfl)) (blkOk_by (own := [("row", 2), ("rule", 3)]) (N := ["self", "word", "row", "rule"]) (sc := _) (by kernel_rfl)) (by decide) (fun _ _ _ _ _ => (pg_name (i := 2) c_Let_words.nd rfl (Or.inl rfl))) (fun _ _ _ _ _ => pts_nil) (fun _ _ _ _ _ => (pi_list (pv 2))) (fun _ _ _ _ _ => (pg_name (i := 3) c_Let_words.nd rfl (Or.inl rfl))) (fun _ _ _ _ _ => pts_nil) (fun _ _ _ _ _ => (pe_cmpR op_eq (pv 1) (pe_ix (r := rIxT K) ix_tup (pv 3) pe_int (fun _ _ => rfl)) (nomark _)))) pa_nil))))) (fun _ _ _ _ _ => (pv 1))))), ?_⟩
    refine ⟨c.WO, rfl, ⟨_, T.words H⟩, fun D hD => lc_it walk_tup (fun i H2 => Same H H2 ∧ ∃ acc, H2 D = some (.lst acc) ∧ acc.length ≤ i ∧ ∀ v ∈ acc, v = V.str "squeeze") ⟨same_new hD, [], upd_same, Nat.le_refl _, (fun v h => by cases h)⟩ (fun i H2 _ _ => T.words _) ?_ ?_⟩
    · rintro i x H2' H2 hi ⟨e2, acc, hacc, hal, hall⟩ ⟨rfl, hx⟩
      obtain ⟨z, hz, rfl⟩ : ∃ z : Str, (z = "push" ∨ z = "squeeze") ∧ x = V.str z := by
        match i, hx with
        | 0, hx => exact ⟨_, .inl rfl, (Option.some.inj hx).symm⟩
        | 1, hx => exact ⟨_, .inr rfl, (Option.some.inj hx).symm⟩
      have hi2 : i < 2 := hi
      refine ⟨rfl, _, rfl, a, c.Le, dx, _, _, rfl, e2 _ _ h1, T.cl_Le, T.n_Le__table, let_table, t, od, kvs, rfl, e2 _ _ h2, fun D2 hD2 => ?_⟩
      refine wk walk_values (fun j H3 => Same H2 H3 ∧ ∃ bs : List Bool, H3 D2 = some (.lst (bs.map V.bl)) ∧ bs.length ≤ j * 7 ∧ ∀ b ∈ bs, b = decide (V.str z = V.str "squeeze")) ⟨same_new hD2, [], upd_same, Nat.zero_le _, (fun b h => by cases h)⟩ (fun j H3 _ z => z.1 _ _ (e2 _ _ h2)) ?_ ?_
      · rintro j y H3' H3 hj ⟨e3, bs, hbs, hbl, hball⟩ ⟨rfl, k, hky⟩
        obtain ⟨s', rs, l, htb, _, rfl, xs, hl, hda⟩ := rx_at h3 hky
        have hl3 := e3 _ _ (e2 _ _ hl)
        have hR7 := hrl _ (List.mem_of_getElem? htb)
        have hxl : xs.length = rs.length := by have := dpAll_len hda; rw [List.length_map] at this; exact this
        have hj5 : j < 5 := by have := rx_len h3; omega
        refine ⟨rfl, _, rfl, l, rfl, ⟨xs, SqL.of hl3⟩, ?_⟩
        refine wk walk_list (fun m H4 => Same H2 H4 ∧ ∃ bs : List Bool, H4 D2 = some (.lst (bs.map V.bl)) ∧ bs.length ≤ j * 7 + m ∧ ∀ b ∈ bs, b = decide (V.str z = V.str "squeeze")) ⟨e3, bs, hbs, hbl, hball⟩ (fun m H4 _ z => SqL.of (z.1 _ _ (e2 _ _ hl))) ?_ ?_
        · rintro m y H4' H4 hm ⟨e4, bs4, hbs4, hbl4, hball4⟩ ⟨rfl, hy⟩
          obtain ⟨r, hrm, hdr⟩ := dpAll_item hda hy
          obtain ⟨qa, rfl, hqa⟩ := dp_rule hdr
          refine ⟨rfl, _, rfl, _, rfl, qa, _, _, _, rfl, rfl, same_sqT (e2.trans e4) hqa, atI0, rfl, ?_⟩
          refine ⟨_, hbs4, by rw [List.length_map]; exact small1000 (by have : rs.length ≤ 7 := hR7; omega), same_updO e4 hD2, bs4 ++ [decide (V.str z = V.str "squeeze")], by rw [List.map_append]; exact upd_same, by rw [List.length_append]; exact Nat.succ_le_succ hbl4, fun b hb => ?_⟩
          rcases List.mem_append.mp hb with zz | zz
          · exact hball4 b zz
          · exact List.mem_singleton.mp zz
        · rintro H4 ⟨e4, bs4, hbs4, hbl4, hball4⟩
          exact ⟨e4, bs4, hbs4, by have : rs.length ≤ 7 := hR7; rw [Nat.succ_mul]; omega, hball4⟩
      · rintro H3 ⟨e3, bs, hbs, hbl, hball⟩
        refine ⟨D2, bs, rfl, SqL.of hbs, _, rfl, ?_⟩
        have hacc3 := e3 _ _ hacc
        cases hany : bs.any id with
        | false => exact iteF ⟨e2.trans e3, acc, hacc3, Nat.le_succ_of_le hal, hall⟩
        | true =>
          refine iteT ⟨_, rfl, acc, hacc3, small1000 (by omega), same_updO (e2.trans e3) hD, acc ++ [.str z], upd_same, by rw [List.length_append]; exact Nat.succ_le_succ hal, fun v hv => ?_⟩
          rcases List.mem_append.mp hv with zz | zz
          · exact hall v zz
          · rw [List.mem_singleton.mp zz]
            obtain ⟨b, hb, hb1⟩ := List.any_eq_true.mp hany
            have hb2 := hball b hb
            have hb3 : b = true := hb1
            rw [hb3] at hb2
            exact of_decide_eq_true hb2.symm
    · rintro H2 ⟨e2, acc, hacc, hal, hall⟩
      exact q H2 D acc e2 hacc hall
/-! ### checked_jaws -/
def spCheckedJaws (K : PySem.W.Frag) (c : Cs) : Sp := fun vs H Q _ => ∃ (pa la : Addr) (N : Int) (pds : List PartD) (tb : Tb), vs = [.ref pa, .ref la] ∧ PartsAt K c H pa N pds ∧ 1 ≤ pds.length ∧ pds.length ≤ 3 ∧ (∀ d ∈ pds, PartOk N d) ∧ LetAt K c H la N tb ∧ tb.length ≤ 5 ∧ (∀ q ∈ tb, q.2.length ≤ 7) ∧
  ∀ p H', Same H H' → JawsAt c H' p (wdF N pds) → Q (.ref p) H'
abbrev s_checked_jaws : Stmt := top 55
theorem c_checked_jaws : FnScope ["parts", "let"] ["parts", "let"] (defScope s_checked_jaws) := ⟨rfl, rfl, rfl, by decide +kernel, rfl, by decide +kernel, by decide +kernel⟩
theorem b_checked_jaws : Bnd0 "checked_jaws" "checked_jaws" s_checked_jaws ["parts", "let"] := fun _ _ _ _ _ _ us hl => match us, hl with | [_, _], _ => rfl
theorem d_checked_jaws (T : Tx K mg c) : Df P w K mg base CX0 7 "checked_jaws" (spCheckedJaws K c) := by
  refine df_0 T.D_checked_jaws c_checked_jaws b_checked_jaws (fun vs H Q E h => ?_) fun f cdv A outer s H vs Q E hr h => ?_
  · obtain ⟨pa, la, N, pds, tb, rfl, _⟩ := h
    rfl
  · obtain ⟨pa, la, N, pds, tb, rfl, hP, l1, l3, hok, hL, htl, hrl, q⟩ := h
    refine ⟨_, (pss_cons (ps_expr (pe_D (d_check_kinds T) (hr.mono (by first | decide | omega)) rfl pass0 (pa_cons (pv 0) (pa_cons pe_int (pa_cons pe_int pa_nil)))))
      (pss_cons (ps_expr (pe_D (d_check_shown T) (hr.mono (by first | decide | omega)) rfl pass0 (pa_cons (pv 0) pa_nil)))
      (pss_cons (ps_if (pt_cmpR op_ne (pe_fld (pv 1) rfl) (pe_fld (pe_ix (r := rIxL K) ix_list (pv 0) pe_int (fun _ _ => rfl)) rfl) (nomark _)) (pss_one ps_never) pss_nil)
      (pss_cons (ps_if (pt_cmpR op_in_seq pe_str (pe_P (pv 1) T.cl_Le (p_Let_words T) (hr.mono (by decide))) (by rfl)) (pss_one ps_never) pss_nil)
      (pss_one (ps_ret (pe_New (m_Jaws T) (hr.mono (by first | decide | omega)) rfl pass0 nw_Jaws (pa_cons (pv 0) pa_nil)))))))), ?_⟩
    refine ⟨_, rfl, pa, N, pds, rfl, hP, l1, l3, fun H1 e1 => ?_⟩
    refine ⟨_, rfl, pa, N, pds, rfl, hP.same e1, fun H2 e2 => ?_⟩
    have e12 := e1.trans e2
    have hP2 := hP.same e12
    have hL2 := hL.same e12
    obtain ⟨vs, hpa, hvs⟩ := hP2.ob
    obtain ⟨dx, t, od, kvs, g1, g2, g3⟩ := hL2.ob
    obtain ⟨pd0, hpd0⟩ : ∃ pd0, pds[0]? = some pd0 := ⟨_, List.getElem?_eq_getElem (by omega)⟩
    obtain ⟨y0, hy0, a0, rfl, hpart0⟩ := paired_get' hvs hpd0
    obtain ⟨dx0, q2, td0, kvs0, gg, _⟩ := hpart0.ob
    refine ⟨_, rfl, la, c.Le, dx, _, _, rfl, g1, T.cl_Le, T.n_Le_around, let_around, _, rfl, pa, _, _, _, rfl, rfl, SqL.of hpa, (by exact atI_nat (j := 0) hy0), a0, c.Pa, dx0, _, _, rfl, gg, T.cl_Pa, T.n_Pa_around, part_around, rfl, _, rfl, inD rfl ?_⟩
    refine ⟨_, rfl, la, dx, _, rfl, g1, la, N, tb, rfl, hL2, htl, hrl, fun H3 l ws e3 hl hall => ?_⟩
    refine ⟨l, ws, rfl, .inl (SqL.of hl), rfl, ?_, _, rfl, ?_⟩
    · rw [List.all_eq_true]
      intro v hv
      rw [hall v hv]
      rfl
    · show if inV (V.str "push") ws = true then _ else _
      rw [inV_push hall]
      refine iteF ?_
      exact ⟨_, rfl, pa, N, pds, rfl, hP2.same e3, l1, l3, hok, fun p H4 e4 hj => q p H4 (e12.trans (e3.trans e4)) hj⟩
end
end L2.Jw
set_option Elab.async false
set_option linter.all false
set_option maxRecDepth 100000
set_option maxHeartbeats 4000000
namespace L2.Jw
open PySem PySem.Spec PyProof.Rows
section
variable {P : Program} {w : World} {K : PySem.W.Frag} {mg : Str → Option Value} {base : Heap} {c : Cs}
/-! ### the choices of a lot -/
def FKeep (H H' : Hp) : Prop := ∀ b o u, H b = some (.frz o u) → H' b = some (.frz o u)
theorem Same.fkeep {H H' : Hp} (e : Same H H') : FKeep H H' := fun b o u h => e _ _ h
theorem fkeep_upd {H : Hp} {a : Addr} {o u : HO} (h : H a = some o) (hn : ∀ a b, o ≠ .frz a b) : FKeep H (upd H a u) := fun b o' u' hb => by
  rw [upd_ne (fun z => by rw [z, h] at hb; exact hn _ _ (Option.some.inj hb))]
  exact hb
def LotsX (K : PySem.W.Frag) (H : Hp) (kvs : List (Key × V)) (lots : List (Int × Lot)) : Prop := Paired (fun (q : Int × Lot) (kv : Key × V) => kv.1 = Sum.inl q.1 ∧ Dp K H kv.2 (lotD q.2)) lots kvs
theorem LotsX.keep {H H' : Hp} {kvs : List (Key × V)} {lots : List (Int × Lot)} (h : LotsX K H kvs lots) (k : TKeep K H H') : LotsX K H' kvs lots := Paired.mapP h fun _ _ ⟨a, b⟩ => ⟨a, lot_tkeep k b⟩
def BrI (K : PySem.W.Frag) (H : Hp) (q : Int × List (Int × Lot)) (v : V) : Prop := ∃ a d od kvs, v = .ref a ∧ SqT K H a [.int q.1, .ref d] ∧ H d = some (.frz od (.dK kvs)) ∧ LotsX K H kvs q.2
theorem BrI.keep {H H' : Hp} {q : Int × List (Int × Lot)} {v : V} (h : BrI K H q v) (k : TKeep K H H') (f : FKeep H H') : BrI K H' q v := by
  obtain ⟨a, d, od, kvs, h1, h2, h3, h4⟩ := h
  exact ⟨a, d, od, kvs, h1, k _ _ h2, f _ _ _ h3, h4.keep k⟩
structure BrAt (K : PySem.W.Frag) (H : Hp) (l : Addr) (b : Brs) : Prop where
  ob : ∃ vs, H l = some (.lst vs) ∧ Paired (BrI K H) b vs
theorem BrAt.same {H H' : Hp} {l : Addr} {b : Brs} (h : BrAt K H l b) (e : Same H H') : BrAt K H' l b := by
  obtain ⟨vs, h1, h2⟩ := h.ob
  exact ⟨vs, e _ _ h1, Paired.mapP h2 fun _ _ x => x.keep (tkeep_same e) (Same.fkeep e)⟩
/-! ### game.branches(state, pairs) -/
def spBranches (K : PySem.W.Frag) (c : Cs) : Sp := fun vs H Q _ => ∃ (p dx ja la : Addr) (fs : List (Str × V)) (s : Str) (v : V) (W : Wd) (N : Int) (tb : Tb) (ps : List Pr), vs = [.ref p, .str s, v] ∧ H p = some (.ins c.Ga dx fs) ∧ fs.lookup ("jaws" : Str) = some (.ref ja) ∧ fs.lookup ("let" : Str) = some (.ref la) ∧
  JawsAt c H ja W ∧ WOk W ∧ LetAt K c H la N tb ∧ (∃ rs, tb.lookup s = some rs ∧ rs.length ≤ 7) ∧ Dp K H v (.tuple (ps.map prD)) ∧ (∀ p ∈ ps, inW W p) ∧ ps.length ≤ 200 ∧
  ∀ H' l, Same H H' → H l = none → BrAt K H' l (brF W tb s ps) → Q (.ref l) H'
abbrev s_Game_branches : Stmt := inC 56 1
theorem c_Game_branches : FnScope ["self", "state", "pairs", "found", "_", "turn", "following", "parted", "width"] ["self", "state", "pairs"] (defScope s_Game_branches) := ⟨rfl, rfl, rfl, by decide +kernel, rfl, by decide +kernel, by decide +kernel⟩
theorem b_Game_branches : Bnd0 "branches" "Game.branches" s_Game_branches ["self", "state", "pairs"] := fun _ _ _ _ _ _ us hl => match us, hl with | [_, _, _], _ => rfl
theorem e_Game_branches (T : Tx K mg c) : Me P w K mg base CX0 3 c.Ga "branches" (spBranches K c) := by
  refine me_0 T.cl_Ga T.M_Ga_branches c_Game_branches b_Game_branches (fun vs H Q E h => ?_) fun f cdv A outer s H vs Q E hr h => ?_
  · obtain ⟨p, dx, ja, la, fs, s, v, W, N, tb, ps, rfl, _⟩ := h
    rfl
  · obtain ⟨p, dx, ja, la, fs, st, v, W, N, tb, ps, rfl, hp, fj, fl, hJ, O, hL, ⟨rs, hlk, hrs7⟩, hv, hin, hpl, q⟩ := h
    refine ⟨_, (pss_cons (ps_set (i := 3) c_Game_branches.nd rfl (Or.inl rfl) (pe_lst pa_nil))
      (pss_cons (ps_for PassesOwn.never rfl (pi_list (pe_M (pe_fld (pv 0) rfl) (e_Let_rules T) (hr.mono (by first | decide | omega)) pass0 (pa_cons (pv 1) pa_nil))) (pg_tup rfl (pgs_cons (pg_name (i := 4) c_Game_branches.nd rfl (Or.inl rfl)) (pgs_cons (pg_name (i := 5) c_Game_branches.nd rfl (Or.inl rfl)) (pgs_cons (pg_name (i := 6) c_Game_branches.nd rfl (Or.inr rfl)) pgs_nil))))
      (pss_cons (ps_set (i := 7) c_Game_branches.nd rfl (Or.inr rfl) (pe_freeze (pe_M (pe_fld (pv 0) rfl) (e_Jaws_parted T) (hr.mono (by decide)) pass0 (pa_cons (pv 2) (pa_cons (pv 5) pa_nil)))))
      (pss_one (ps_expr (pe_bm PySem.F.plainAttrs_list PySem.F.slot_list_append PySem.F.type_list_append mt_append (pv 3) (pa_cons (pe_tup (pa_cons (pv 5) (pa_cons (pe_freeze (pe_dc (own := [("width", 8)]) (g := (gName 8)) (tt := tYes) (by rfl) c_Game_branches.nd (pi_keys (pv 7)) (blkOk_by (own := [("width", 8)]) (N := ["self", "state", "pairs", "found", "_", "turn", "following", "parted", "width"]) (sc := defScope s_Game_branches) (by decide +kernel)) (fun _ _ _ _ _ => (pg_name (i := 8) c_Game_branches.nd rfl (Or.inl rfl))) (fun _ _ _ _ _ => pts_nil) (fun _ _ _ _ _ => (pv 8)) (fun _ _ _ _ _ => (pe_tup (pa_cons (pv 6) (pa_cons (pe_dget (hu_of hr) (pv 7) (pv 8) (fun _ _ => rfl)) pa_nil)))))) pa_nil))) pa_nil))))))
      (pss_one (ps_ret (pv 3))))), ?_⟩
    refine ⟨(by show 0 ≤ sizeLine; decide), fun F hF => ?_⟩
    have eF := same_new (o := .lst []) hF
    obtain ⟨dxl, tl, odl, kvl, hl1, _⟩ := (hL.same eF).ob
    refine ⟨_, rfl, p, c.Ga, dx, _, _, rfl, eF _ _ hp, T.cl_Ga, T.n_Ga_let, fl, la, dxl, _, rfl, hl1, (by unfold letFs; kernel_rfl), _, rfl, la, N, tb, st, rs, rfl, hL.same eF, hlk, fun H1 R e1 hR0 ⟨xs, hR, hda⟩ => ?_⟩
    have e01 := eF.trans e1
    have hxl : xs.length = rs.length := by have := dpAll_len hda; rw [List.length_map] at this; exact this
    have hbr : brF W tb st ps = rs.map fun r => (r.1, (partF W ps r.1).map fun q => (q.1, (r.2, q.2))) := by unfold brF rulesF; rw [hlk]; rfl
    have hF1 := e1 _ _ (upd_same (H := H) (a := F) (o := .lst []))
    refine ⟨R, rfl, ⟨xs, SqL.of hR⟩, for_it walk_list (fun i σ H2 => Same H H2 ∧ ∃ (vs : List V) (x4 x5 x6 x7 x8 : Option V), σ = [some (.ref p), some (.str st), some v, some (.ref F), x4, x5, x6, x7, x8] ∧ H2 F = some (.lst vs) ∧ vs.length = i ∧ H2 R = some (.lst xs) ∧ DpAll K H2 xs (rs.map ruleD) ∧
        Paired (BrI K H2) ((rs.take i).map fun r => (r.1, (partF W ps r.1).map fun q => (q.1, (r.2, q.2)))) vs)
      ⟨e01, [], none, none, none, none, none, rfl, hF1, rfl, hR, hda, .nil⟩ (fun i σ H2 _ ⟨_, _, _, _, _, _, _, _, _, _, h, _⟩ => SqL.of h) ?_ ?_⟩
    · rintro i y σ H2' H2 hi ⟨e2, vs, x4, x5, x6, x7, x8, rfl, hF2, hvl, hR2, hda2, hpr⟩ ⟨rfl, hy⟩
      obtain ⟨r, hri, hdr⟩ := dpAll_item hda2 hy
      obtain ⟨qa, rfl, hqa⟩ := dp_rule hdr
      have htk : rs.take (i + 1) = rs.take i ++ [r] := by rw [List.take_succ, hri]; rfl
      have FR : F ≠ R := fun z => by
        rw [← z, upd_same] at hR0
        cases hR0
      refine ⟨qa, _, rfl, hqa, rfl, _, _, rfl, _, _, rfl, _, _, rfl, rfl, ?_⟩
      obtain ⟨dxj, l1, g1, s1, hj1, _⟩ := (hJ.same e2).ob
      -- parted
      refine ⟨_, rfl, p, c.Ga, dx, _, _, rfl, e2 _ _ hp, T.cl_Ga, T.n_Ga_jaws, fj, ja, dxj, _, rfl, hj1, (by unfold jawsFs; kernel_rfl), _, rfl, _, rfl, ja, v, r.1, W, ps, rfl, hJ.same e2, O, dp_same e2 _ _ hv, hin, hpl, fun H3 d kvs e3 hd0 hd hpx => ?_⟩
      refine ⟨d, _, rfl, hd, True.intro, fun od => ?_⟩
      have eH4 : Same H2 (upd H3 d (.frz od (.dK kvs))) := same_updO e3 hd0
      have k4 : TKeep K H3 (upd H3 d (.frz od (.dK kvs))) := dK_tkeep hd
      have hpx4 : PartX K (upd H3 d (.frz od (.dK kvs))) kvs (partF W ps r.1) := Paired.mapP hpx fun _ _ ⟨a, b⟩ => ⟨a, prT_tkeep k4 b⟩
      generalize hH4 : upd H3 d (.frz od (.dK kvs)) = H4 at eH4 hpx4
      have hd4 : H4 d = some (.frz od (.dK kvs)) := by rw [← hH4, upd_same]
      -- the tuple's dict
      refine ⟨_, rfl, .inl ⟨rfl, _, SqL.of (eH4 _ _ hF2)⟩, _, rfl, _, rfl, d, od, rfl, .inl ⟨kvs, hd4, fun D hD => ?_⟩⟩
      have hkn : kvs.length = (partF W ps r.1).length := (Paired.len hpx4).symm
      have hwn : (partF W ps r.1).length ≤ 200 := by
        unfold partF
        rw [List.length_map]
        have : (widF W ps r.1).length ≤ (ps.map fun p => (sqF W p r.1).2).length := nodup_len (nodup_canonI _) fun x hx => mem_canonI.mp hx
        rw [List.length_map] at this
        omega
      refine dc_it walk_keys (fun j H5 => Same H4 H5 ∧ ∃ kvs2, H5 D = some (.dK kvs2) ∧ LotsX K H5 kvs2 (((partF W ps r.1).take j).map fun q => (q.1, (r.2, q.2)))) ⟨same_new hD, [], upd_same, .nil⟩ (fun j H5 _ z => z.1 _ _ hd4) ?_ ?_
      · rintro j y H5' H5 hj ⟨e5, kvs2, hD5, hlx⟩ ⟨rfl, k, vv, hkv, rfl⟩
        obtain ⟨qq, hqq, hk1, hk2⟩ := paired_get hpx4 hkv
        have hnodup : ∀ {i j : Nat} {x y : Int × List Pr}, (partF W ps r.1)[i]? = some x → (partF W ps r.1)[j]? = some y → i < j → x.1 ≠ y.1 := fun {i j x y} h1 h2 hij e => by
          unfold partF at h1 h2
          rw [List.getElem?_map] at h1 h2
          cases hw1 : (widF W ps r.1)[i]? with
          | none => rw [hw1] at h1; cases h1
          | some w1 =>
            cases hw2 : (widF W ps r.1)[j]? with
            | none => rw [hw2] at h2; cases h2
            | some w2 =>
              rw [hw1] at h1
              rw [hw2] at h2
              cases h1
              cases h2
              obtain ⟨b1, c1⟩ := List.getElem?_eq_some_iff.mp hw1
              obtain ⟨b2, c2⟩ := List.getElem?_eq_some_iff.mp hw2
              have e' : w1 = w2 := e
              exact absurd (c1.trans (e'.trans c2.symm)) (List.pairwise_iff_getElem.mp (List.nodup_iff_pairwise_ne.mp (nodup_canonI _)) i j b1 b2 hij)
        have hval : valV kvs k = some vv := by
          have : ∀ {kvs : List (Key × V)} {fs : Grp} {j : Nat}, PartX K H4 kvs fs → (∀ {i j : Nat} {x y : Int × List Pr}, fs[i]? = some x → fs[j]? = some y → i < j → x.1 ≠ y.1) → kvs[j]? = some (k, vv) → valV kvs k = some vv := by
            intro kvs fs j h
            induction h generalizing j with
            | nil => intro _ h; cases h
            | @cons q kv fs kvs a t ih =>
              intro hn hk
              match j, hk with
              | 0, hk => cases hk; exact valV_pos rfl
              | j + 1, hk =>
                obtain ⟨q2, hq2, hq2k, _⟩ := paired_get t hk
                rw [valV_neg (fun z => hn (i := 0) (j := j + 1) rfl hq2 (Nat.succ_pos _) (by
                  have : kv.1 = k := z
                  have hq2k' : k = Sum.inl q2.1 := hq2k
                  rw [a.1, hq2k'] at this
                  exact Sum.inl.inj this))]
                exact ih (fun {i j x y} h1 h2 hij => hn (i := i + 1) (j := j + 1) h1 h2 (Nat.succ_lt_succ hij)) hk
          exact this hpx4 hnodup hkv
        have hk1' : k = Sum.inl qq.1 := hk1
        refine ⟨rfl, _, rfl, _, rfl, _, rfl, _, rfl, d, _, rfl, .inl ⟨kvs, k, .inr ⟨od, e5 _ _ hd4⟩, rfl, hval.symm⟩, (by show 2 ≤ sizeLine; decide), fun u hu => ?_⟩
        have e6 := same_new (o := .tup [.str r.2, vv]) hu
        have hD6 := e6 _ _ hD5
        have hnew : valV kvs2 k = none := by
          cases hz : valV kvs2 k with
          | none => rfl
          | some z =>
            exfalso
            have hin2 := valV_in hz
            obtain ⟨kv', hkv', ek⟩ := List.mem_map.mp hin2
            obtain ⟨m, hm, em⟩ := List.getElem_of_mem hkv'
            obtain ⟨q3, hq3, hq3k, _⟩ := paired_get hlx (i := m) (y := kv') (by rw [List.getElem?_eq_getElem hm, em])
            rw [List.getElem?_map] at hq3
            cases hq4 : ((partF W ps r.1).take j)[m]? with
            | none => rw [hq4] at hq3; cases hq3
            | some q4 =>
              rw [hq4] at hq3
              cases hq3
              have hmj : m < j := by
                have := (List.getElem?_eq_some_iff.mp hq4).1
                rw [List.length_take] at this
                omega
              rw [List.getElem?_take_of_lt hmj] at hq4
              have hkk : q4.1 = qq.1 := by
                have : (Sum.inl q4.1 : Key) = k := hq3k.symm.trans ek
                rw [hk1'] at this
                exact Sum.inl.inj this
              exact hnodup hq4 hqq hmj hkk
        have hk2l : kvs2.length ≤ j := by
          have := Paired.len hlx
          rw [List.length_map, List.length_take] at this
          omega
        have k7 : TKeep K (upd H5 u (.tup [.str r.2, vv])) (upd (upd H5 u (.tup [.str r.2, vv])) D (.dK (putK kvs2 k (.ref u)))) := dK_tkeep hD6
        refine ⟨kvs2, k, rfl, hD6, small1000 (by omega), same_updO (e5.trans e6) hD, _, upd_same, ?_⟩
        rw [putK_new _ hnew, List.take_succ, hqq, List.map_append]
        rw [putK_new _ hnew] at k7
        refine paired_snoc ((LotsX.keep hlx (tkeep_same e6)).keep k7) ⟨hk1', ?_⟩
        obtain ⟨ta, tys, eta, hts, hta⟩ := dp_tup (dp_same (e5.trans e6) _ _ hk2)
        have : vv = .ref ta := eta
        subst this
        exact lot_tkeep k7 (lot_dp (l := (r.2, qq.2)) (SqT.of upd_same) hts hta)
      · rintro H5 ⟨e5, kvs2, hD5, hlx⟩
        have hall : (partF W ps r.1).take kvs.length = partF W ps r.1 := by rw [hkn, List.take_length]
        rw [hall] at hlx
        refine ⟨D, _, rfl, hD5, True.intro, fun od2 => ?_⟩
        have eH6 : Same H4 (upd H5 D (.frz od2 (.dK kvs2))) := same_updO e5 hD
        have k6 : TKeep K H5 (upd H5 D (.frz od2 (.dK kvs2))) := dK_tkeep hD5
        have hlx6 := hlx.keep k6
        generalize hH6 : upd H5 D (.frz od2 (.dK kvs2)) = H6 at eH6 hlx6
        have hD6 : H6 D = some (.frz od2 (.dK kvs2)) := by rw [← hH6, upd_same]
        refine ⟨(by show 2 ≤ sizeLine; decide), fun u hu => ?_⟩
        have e7 := same_new (o := .tup [.int r.1, .ref D]) hu
        have e27 : Same H2 (upd H6 u (.tup [.int r.1, .ref D])) := eH4.trans (eH6.trans e7)
        have hF7 := e27 _ _ hF2
        have k8 : TKeep K (upd H6 u (.tup [.int r.1, .ref D])) (upd (upd H6 u (.tup [.int r.1, .ref D])) F (.lst (vs ++ [.ref u]))) := lst_tkeep hF7
        have f8 : FKeep (upd H6 u (.tup [.int r.1, .ref D])) (upd (upd H6 u (.tup [.int r.1, .ref D])) F (.lst (vs ++ [.ref u]))) := fkeep_upd hF7 (fun _ _ z => by cases z)
        refine ⟨F, vs, _, rfl, rfl, hF7, small1000 (by omega), same_updO (e2.trans e27) hF, vs ++ [.ref u], _, _, _, _, _, rfl, upd_same, by rw [List.length_append, hvl]; rfl, by rw [upd_ne FR.symm]; exact e27 _ _ hR2, rules_tkeep k8 (dpAll_same e27 _ _ hda2), ?_⟩
        rw [htk, List.map_append]
        refine paired_snoc (Paired.mapP hpr fun _ _ x => (x.keep (tkeep_same e27) (Same.fkeep e27)).keep k8 f8) ⟨u, D, od2, kvs2, rfl, k8 _ _ (SqT.of upd_same), f8 _ _ _ (e7 _ _ hD6), ?_⟩
        exact (hlx6.keep (tkeep_same e7)).keep k8
    · rintro σ H2 ⟨e2, vs, x4, x5, x6, x7, x8, rfl, hF2, hvl, hR2, hda2, hpr⟩
      rw [hxl, List.take_length] at hpr
      refine ⟨_, rfl, q H2 F e2 hF ⟨vs, hF2, ?_⟩⟩
      rw [hbr]
      exact hpr
end
end L2.Jw
set_option Elab.async false
set_option linter.all false
set_option maxRecDepth 100000
set_option maxHeartbeats 4000000
namespace L2.Jw
open PySem PySem.Spec PyProof.Rows
section
variable {P : Program} {w : World} {K : PySem.W.Frag} {mg : Str → Option Value} {base : Heap} {c : Cs}
/-! ### the greatest and the least -/
theorem maxL_ge : ∀ {l : List Int} {y : Int}, y ∈ l → y ≤ maxL l
  | [x], y, h => by
    rw [List.mem_singleton.mp h]
    exact Int.le_refl _
  | x :: z :: l, y, h => by
    show y ≤ max x (maxL (z :: l))
    rcases List.mem_cons.mp h with rfl | h
    · omega
    · have := maxL_ge (l := z :: l) h
      omega
theorem maxL_mem : ∀ {l : List Int}, l ≠ [] → maxL l ∈ l
  | [], h => absurd rfl h
  | [x], _ => List.mem_singleton.mpr rfl
  | x :: z :: l, _ => by
    show max x (maxL (z :: l)) ∈ _
    have := maxL_mem (l := z :: l) (by simp)
    by_cases h : maxL (z :: l) ≤ x
    · rw [Int.max_eq_left h]
      exact List.mem_cons_self
    · rw [Int.max_eq_right (by omega)]
      exact List.mem_cons_of_mem _ this
theorem minL_le : ∀ {l : List Int} {y : Int}, y ∈ l → minL l ≤ y
  | [x], y, h => by
    rw [List.mem_singleton.mp h]
    exact Int.le_refl _
  | x :: z :: l, y, h => by
    show min x (minL (z :: l)) ≤ y
    rcases List.mem_cons.mp h with rfl | h
    · omega
    · have := minL_le (l := z :: l) h
      omega
theorem minL_mem : ∀ {l : List Int}, l ≠ [] → minL l ∈ l
  | [], h => absurd rfl h
  | [x], _ => List.mem_singleton.mpr rfl
  | x :: z :: l, _ => by
    show min x (minL (z :: l)) ∈ _
    have := minL_mem (l := z :: l) (by simp)
    by_cases h : x ≤ minL (z :: l)
    · rw [Int.min_eq_left h]
      exact List.mem_cons_self
    · rw [Int.min_eq_right (by omega)]
      exact List.mem_cons_of_mem _ this
theorem maxL_eq {l : List Int} {m : Int} (h : m ∈ l) (u : ∀ y ∈ l, y ≤ m) : m = maxL l := Int.le_antisymm (maxL_ge h) (u _ (maxL_mem (fun z => by rw [z] at h; cases h)))
theorem minL_eq {l : List Int} {m : Int} (h : m ∈ l) (u : ∀ y ∈ l, m ≤ y) : m = minL l := Int.le_antisymm (u _ (minL_mem (fun z => by rw [z] at h; cases h))) (minL_le h)
/-! ### the worth of the lots -/
structure WorthAt (P : Program) (w : World) (K : PySem.W.Frag) (H : Hp) (a : Addr) (wv : Lot → Option Int) : Prop where
  ob : ∃ kvs, NDict P w K H a kvs ∧ ∀ l, valV kvs l = (wv l).map V.int
theorem NDict.same {H H' : Hp} {d : Addr} {kvs : List (Lot × V)} (h : NDict P w K H d kvs) (e : Same H H') : NDict P w K H' d kvs := by
  obtain ⟨kas, h1, h2⟩ := h
  exact ⟨kas, h1.elim (fun h => .inl (e _ _ h)) fun ⟨o, h⟩ => .inr ⟨o, e _ _ h⟩, h2.same (fun d v => dp_same e d v)⟩
theorem WorthAt.same {H H' : Hp} {a : Addr} {wv : Lot → Option Int} (h : WorthAt P w K H a wv) (e : Same H H') : WorthAt P w K H' a wv := by
  obtain ⟨kvs, h1, h2⟩ := h.ob
  exact ⟨kvs, h1.same e, h2⟩
theorem acc_ints {n : Nat} {F : Nat → Int} {ys : List V} (h : Paired (fun (i : Nat) (y : V) => y = V.int (F i)) (List.range n) ys) : ys = ((List.range n).map F).map V.int := by
  generalize List.range n = l at h
  induction h with
  | nil => rfl
  | cons a _ ih => rw [a, ih]; rfl
theorem range_get {α β : Type} {l : List α} (f : α → β) (d : β) : ∀ {n : Nat}, n = l.length → ((List.range n).map fun i => ((l[i]?).map f).getD d) = l.map f := by
  intro n hn
  subst hn
  refine List.ext_getElem? fun i => ?_
  rw [List.getElem?_map, List.getElem?_map]
  by_cases hi : i < l.length
  · rw [List.getElem?_range hi, List.getElem?_eq_getElem hi]
    simp [List.getElem?_eq_getElem hi]
  · rw [List.getElem?_eq_none (by rw [List.length_range]; omega), List.getElem?_eq_none (by omega)]
    rfl
def gameFs (ja la : Addr) (st : Bool) (ch wa : Addr) (bt : Bool) (op : Addr) : List (Str × V) := [("jaws", .ref ja), ("let", .ref la), ("strict", .bl st), ("choices", .ref ch), ("worth", .ref wa), ("begins_told", .bl bt), ("opening", .ref op)]
def spWorst (P : Program) (w : World) (K : PySem.W.Frag) (c : Cs) : Sp := fun vs H Q _ => ∃ (g dx d ja la ch wa op : Addr) (st bt : Bool) (wv : Lot → Option Int) (od : Obj) (kvs : List (Key × V)) (lots : List (Int × Lot)) (m : Int), vs = [.ref g, .ref d, .int m] ∧
  H g = some (.ins c.Ga dx (gameFs ja la st ch wa bt op)) ∧ WorthAt P w K H wa wv ∧ H d = some (.frz od (.dK kvs)) ∧ LotsX K H kvs lots ∧ lots ≠ [] ∧ lots.length ≤ 200 ∧ ∀ H', Same H H' → Q (.int (worstF wv lots m)) H'
abbrev s_Game_worst : Stmt := inC 56 3
theorem c_Game_worst : FnScope ["self", "lots", "most", "lot"] ["self", "lots", "most"] (defScope s_Game_worst) := ⟨rfl, rfl, rfl, by decide +kernel, rfl, by decide +kernel, by decide +kernel⟩
theorem b_Game_worst : Bnd0 "worst" "Game.worst" s_Game_worst ["self", "lots", "most"] := fun _ _ _ _ _ _ us hl => match us, hl with | [_, _, _], _ => rfl
theorem e_Game_worst (T : Tx K mg c) : Me P w K mg base CX0 1 c.Ga "worst" (spWorst P w K c) := by
  refine me_0 T.cl_Ga T.M_Ga_worst c_Game_worst b_Game_worst (fun vs H Q E h => ?_) fun f cdv A outer s H vs Q E hr h => ?_
  · obtain ⟨g, dx, d, ja, la, ch, wa, op, st, bt, wv, od, kvs, lots, m, rfl, _⟩ := h
    rfl
  · obtain ⟨g, dx, d, ja, la, ch, wa, op, st, bt, wv, od, kvs, lots, m, rfl, hg, hw, hd, hlx, hne, hln, q⟩ := h
    refine ⟨_, (pss_one (ps_ret (pe_callB (cr_max rfl) (by rfl) T.max (by decide +kernel) (pa_cons (pe_lc (own := [("lot", 3)]) (g := (gName 3)) (tt := tYes) (by rfl) c_Game_worst.nd (pi_values (pv 1)) (blkOk_by (own := [("lot", 3)]) (N := ["self", "lots", "most", "lot"]) (sc := defScope s_Game_worst) (by decide +kernel)) (fun _ _ _ _ _ => (pg_name (i := 3) c_Game_worst.nd rfl (Or.inl rfl))) (fun _ _ _ _ _ => pts_nil) (fun _ _ _ _ _ => (show PE _ _ (tNGet2 P w K (tFld K (tVar 0) "worth") (tVar 3) (tVar 2)) from pe_nget2 hr.units (pe_fld (pv 0) rfl) (pv 3) (pv 2) ⟨rfl, rfl, rfl, rfl⟩))) pa_nil)))), ?_⟩
    have hkl : kvs.length = lots.length := (Paired.len hlx).symm
    refine ⟨_, rfl, d, od, kvs, rfl, hd, fun D hD => ?_⟩
    refine lc_mp walk_values (fun i y H => y = V.int (((lots[i]?).map fun q => (wv q.2).getD m).getD 0)) hD (fun H e => e _ _ hd) (by omega) (fun _ _ _ _ _ _ _ h => h) ?_ ?_
    · rintro i x H2' H2 Cy Cn hi e2 ⟨rfl, k, hk⟩ hC
      obtain ⟨q1, hq1, hk1, hdp⟩ := paired_get hlx hk
      refine ⟨rfl, ?_⟩
      obtain ⟨wkv, hnd, hval⟩ := (hw.same e2).ob
      refine ⟨_, rfl, g, c.Ga, dx, _, _, rfl, e2 _ _ hg, T.cl_Ga, T.n_Ga_worth, (by unfold gameFs; kernel_rfl), wa, wkv, rfl, hnd, _, rfl, _, rfl, wkv, q1.2, hnd, dp_same e2 _ _ hdp, ?_⟩
      refine hC _ _ (fun _ _ h => h) ?_
      rw [hval, hq1]
      show ((wv q1.2).map V.int).getD (V.int m) = V.int ((wv q1.2).getD m)
      cases wv q1.2 <;> rfl
    · intro H2 acc e2 hacc hp
      have ha := acc_ints hp
      rw [hkl, range_get (fun q : Int × Lot => (wv q.2).getD m) 0 rfl] at ha
      rw [ha] at hacc
      refine ⟨D, _, rfl, SqL.of hacc, ?_, fun z hz1 hz2 => ?_⟩
      · rw [List.length_map]
        exact List.length_pos_iff.mpr hne
      · have := maxL_eq hz1 hz2
        rw [this]
        exact q H2 e2
/-! ### the least of the squeezes -/
structure BrsOk (b : Brs) : Prop where
  len : b.length ≤ 7
  lots : ∀ x ∈ b, x.2 ≠ [] ∧ x.2.length ≤ 200
  nd : ∀ x ∈ b, (x.2.map Prod.fst).Nodup
def spLeast (P : Program) (w : World) (K : PySem.W.Frag) (c : Cs) : Sp := fun vs H Q _ => ∃ (g dx l ja la ch wa op : Addr) (st bt : Bool) (wv : Lot → Option Int) (b : Brs) (m : Int), vs = [.ref g, .ref l, .int m] ∧
  H g = some (.ins c.Ga dx (gameFs ja la st ch wa bt op)) ∧ WorthAt P w K H wa wv ∧ BrAt K H l b ∧ BrsOk b ∧ ∀ H', Same H H' → Q (.int (leastF wv b m)) H'
abbrev s_Game_least : Stmt := inC 56 5
theorem c_Game_least : FnScope ["self", "choices", "most", "_", "lots"] ["self", "choices", "most"] (defScope s_Game_least) := ⟨rfl, rfl, rfl, by decide +kernel, rfl, by decide +kernel, by decide +kernel⟩
theorem b_Game_least : Bnd0 "least" "Game.least" s_Game_least ["self", "choices", "most"] := fun _ _ _ _ _ _ us hl => match us, hl with | [_, _, _], _ => rfl
theorem e_Game_least (T : Tx K mg c) : Me P w K mg base CX0 2 c.Ga "least" (spLeast P w K c) := by
  refine me_0 T.cl_Ga T.M_Ga_least c_Game_least b_Game_least (fun vs H Q E h => ?_) fun f cdv A outer s H vs Q E hr h => ?_
  · obtain ⟨g, dx, l, ja, la, ch, wa, op, st, bt, wv, b, m, rfl, _⟩ := h
    rfl
  · obtain ⟨g, dx, l, ja, la, ch, wa, op, st, bt, wv, b, m, rfl, hg, hw, ⟨vs, hl, hp⟩, hb, q⟩ := h
    refine ⟨_, (pss_one (ps_ret (pe_callBK (cr_minD rfl) (by rfl) T.min (by decide +kernel) (pa_cons (pe_lc (own := [("_", 3), ("lots", 4)]) (g := (gTup K 2 (gCons (gName 3) (gCons (gName 4) gNil)))) (tt := tYes) (by rfl) c_Game_least.nd (pi_list (pv 1)) (blkOk_by (own := [("_", 3), ("lots", 4)]) (N := ["self", "choices", "most", "_", "lots"]) (sc := defScope s_Game_least) (by decide +kernel)) (fun _ _ _ _ _ => (pg_tup rfl (pgs_cons (pg_name (i := 3) c_Game_least.nd rfl (Or.inl rfl)) (pgs_cons (pg_name (i := 4) c_Game_least.nd rfl (Or.inl rfl)) pgs_nil)))) (fun _ _ _ _ _ => pts_nil) (fun _ _ _ _ _ => (pe_op op_add pe_int (pe_M (pv 0) (e_Game_worst (P := P) (w := w) (base := base) T) (hr.mono (by first | decide | omega)) pass0 (pa_cons (pv 4) (pa_cons (pv 2) pa_nil)))))) pa_nil) (pk_cons (pe_op op_add (pv 2) pe_int) pk_nil)))), ?_⟩
    have hvl : vs.length = b.length := (Paired.len hp).symm
    have hb7 := hb.len
    refine ⟨_, rfl, l, rfl, ⟨vs, SqL.of hl⟩, fun D hD => ?_⟩
    refine lc_mp walk_list (fun i y H => y = V.int (((b[i]?).map fun x => 1 + worstF wv x.2 m).getD 0)) hD (fun H e => SqL.of (e _ _ hl)) (by omega) (fun _ _ _ _ _ _ _ h => h) ?_ ?_
    · rintro i x H2' H2 Cy Cn hi e2 ⟨rfl, hx⟩ hC
      obtain ⟨q1, hq1, qa, d, od, kvs, rfl, hsq, hd, hlx⟩ := paired_get hp hx
      obtain ⟨o1, o2⟩ := hb.lots q1 (List.mem_of_getElem? hq1)
      have hsq2 := same_sqT e2 hsq
      refine ⟨qa, _, rfl, hsq2, rfl, _, _, rfl, _, _, rfl, rfl, rfl, ?_⟩
      refine ⟨_, rfl, g, dx, _, rfl, e2 _ _ hg, (by unfold gameFs; kernel_rfl), _, rfl, _, rfl, g, dx, d, ja, la, ch, wa, op, st, bt, wv, od, kvs, q1.2, m, rfl, e2 _ _ hg, hw.same e2, e2 _ _ hd, hlx.keep (tkeep_same e2), o1, o2, fun H3 e3 => ?_⟩
      refine ⟨_, _, rfl, rfl, hC _ _ e3 ?_⟩
      rw [hq1]
      rfl
    · intro H2 acc e2 hacc hpp
      have ha := acc_ints hpp
      rw [hvl, range_get (fun x : Int × List (Int × Lot) => 1 + worstF wv x.2 m) 0 rfl] at ha
      rw [ha] at hacc
      refine ⟨_, rfl, _, _, rfl, rfl, D, _, _, rfl, rfl, SqL.of hacc, fun hz => ?_, fun z hz1 hz2 => ?_⟩
      · have hb0 : b = [] := List.map_eq_nil_iff.mp hz
        have := q H2 e2
        unfold leastF at this
        rw [if_pos hb0] at this
        exact this
      · have hbn : ¬ b = [] := fun z2 => by rw [z2] at hz1; cases hz1
        have := q H2 e2
        unfold leastF at this
        rw [if_neg hbn, ← minL_eq hz1 hz2] at this
        exact this
end
end L2.Jw
set_option Elab.async false
set_option linter.all false
set_option maxRecDepth 100000
set_option maxHeartbeats 4000000
namespace L2.Jw
open PySem PySem.Spec PyProof.Rows
/-! ### list(d.values()) -/
def tListVals (td : TE) : TE := fun σ H Q => td σ H fun x H1 => ∃ a kvs, x = V.ref a ∧ Rd H1 a (.dK kvs) ∧ ∀ q, H1 q = none → Q (.ref q) (upd H1 q (.lst (kvs.map Prod.snd)))
section
variable {X : Cx} {o : Expr} {p pos apos mpos : Pos} {td : TE}
theorem pe_listVals (hc : X.calm = true) (hg : Gl X "list") (hm : X.mg "list" = none) (hd : PE X o td) (hbase : attributeBase o "values" X.env (eval o X.env) = eval o X.env := by rfl) (hline : (apos.endLine == mpos.line) = true := by rfl)
    (na : starEach [Expr.Call (.Attribute o "values" apos) [] [] mpos] X.env = (false, eval (Expr.Call (.Attribute o "values" apos) [] [] mpos) X.env) :: starEach [] X.env := by rfl) :
    PE X (.Call (.Name "list" p) [.Call (.Attribute o "values" apos) [] [] mpos] [] pos) (tListVals td) := by
  refine ⟨fun pins s σ H Q I h => ?_⟩
  refine Call_ (ld_blt I hg hm boot_list (PyProof.Rows.callWith_type1 (args_cons (wpAny_Call_method0_late hbase hline (thn (hd.run pins s σ H _ I h) fun v s1 ⟨x, H1, I1, r1, a, kvs, ex, ha, q⟩ => ?_)) na) na))
  subst ex
  obtain rfl : v = Value.ref a := r1
  obtain ⟨z, hsys, vs, rel, dof⟩ := dk_rd I1.hok ha
  obtain ⟨ep, dat⟩ := dof.dictAt
  have dat' := dat
  obtain ⟨ob, es, ho, ex, hdat, hko, hpr, hnd⟩ := dat'
  refine ⟨"dict", "dict.values", F.plainAttrs_dict, F.slot_dict_values, F.type_dict_values, ⟨ob, ho, ex.1⟩, fun b e => ?_, Calls.callWith_builtin rfl (PySem.evalArgs_none ?_)⟩
  · cases e
    exact ⟨ob, ho, ex.2.1⟩
  refine call_meetsIn F.slot_dict_values ⟨ob, ho, ex.1⟩ F.entry_dict_values (F.args_dict_values_1 _) (meets_dict_values (mixKind X.prog X.w) a hsys) ⟨⟨vs, dof⟩, ?_⟩
  have k1 : ∀ b u, s1.heap.get? b = some u → (s1.heap.push { cls := .type "dict_values", data := .fields #[.ref a] }).get? b = some u := fun b u e => Heap.get?_push_of_some _ e
  have dat1 : (s1.heap.push { cls := .type "dict_values", data := .fields #[.ref a] }).DictAt (mixKind X.prog X.w) a vs ep := dat.keep k1
  refine args_nil ?_
  have I2 : Inv X pins σ H1 { s1 with heap := s1.heap.push { cls := .type "dict_values", data := .fields #[.ref a] } } := I1.kept (t' := s1.toks) k1
  have hl : kvs.length = vs.length := Paired.length rel
  refine PySem.W.kdl_call (PySem.W.kdl_values (knd := mixKind X.prog X.w) (r := s1.heap.objs.size) (d := a) (kvs := vs) (ep := ep)) (I2.ok.hd hc) ⟨⟨_, Heap.get?_push_size _ rfl, rfl, rfl⟩, dat1⟩ (by rw [← hl]; exact z) fun h' tk acc' c' hkeep hS hacc => ?_
  refine ⟨.ref (s1.heap.push { cls := .type "dict_values", data := .fields #[.ref a] }).objs.size, upd H1 (s1.heap.push { cls := .type "dict_values", data := .fields #[.ref a] }).objs.size (.lst (kvs.map Prod.snd)), I2.laid hkeep (Nat.le_refl _) (show ObjOk X.prog X.w _ _ _ (.lst (kvs.map Prod.snd)) from ⟨?_, acc'.toList, c', ?_, ?_⟩), rfl, q _ (I2.hok.fresh (Nat.le_refl _))⟩
  · rw [List.length_map]; exact z
  · refine vals_of_at (by rw [List.length_map, hl, Array.length_toList]; exact hacc.1.symm) fun j x w h1 h2 => ?_
    obtain ⟨k, hk⟩ := hacc.2 j w (by rw [← Array.getElem?_toList]; exact h2)
    obtain ⟨y, hy1, hy2⟩ := KV.at' rel hk
    rw [List.getElem?_map, hy1] at h1
    cases h1
    exact hy2
  · rw [Array.toArray_toList]; exact hS
end
end L2.Jw
set_option Elab.async false
set_option linter.all false
set_option maxRecDepth 100000
set_option maxHeartbeats 4000000
namespace L2.Jw
open PySem PySem.Spec PyProof.Rows
section
variable {P : Program} {w : World} {K : PySem.W.Frag} {mg : Str → Option Value} {base : Heap} {c : Cs}
/-! ### TooMany(limit), raised -/
def spTMI (c : Cs) : Sp := fun vs H Q _ => ∃ (a : Addr) (y : V), vs = [.ref a, y] ∧ H a = some (exo a c.TM none) ∧ ∀ dx, H dx = none → dx ≠ a → Q .non (upd (upd H dx (exd dx [("limit", y)])) a (exo a c.TM (some dx)))
abbrev s_TooMany___init__ : Stmt := inC 13 0
theorem c_TooMany___init__ : FnScope ["self", "limit"] ["self", "limit"] (defScope s_TooMany___init__) := ⟨rfl, rfl, rfl, by decide +kernel, rfl, by decide +kernel, by decide +kernel⟩
theorem b_TooMany___init__ : Bnd0 "__init__" "TooMany.__init__" s_TooMany___init__ ["self", "limit"] := fun _ _ _ _ _ _ us hl => match us, hl with | [_, _], _ => rfl
theorem ok_TMI (T : Tx K mg c) : ∃ fI fd, PySem.W.findIn K (.ref c.TM) "__init__" = some (some (.ref fI)) ∧ PySem.W.typeIn K (.ref fI) = some (.type "function") ∧ FnOk P w K mg base CX0 1 fI fd ["self", "limit"] (spTMI c) ∧ Binds K fd ["self", "limit"] [] := by
  obtain ⟨fI, fd, h1, h2, F⟩ := T.exI
  refine ⟨fI, fd, h1, h2, F.ok (k := 0) c_TooMany___init__ (fun vs H Q E h => ?_) (fun cdv A outer s H vs Q E hr h => ?_), F.bindsN b_TooMany___init__⟩
  · obtain ⟨a, y, rfl, _⟩ := h
    rfl
  · obtain ⟨a, y, rfl, ha, q⟩ := h
    refine ⟨_, PSs.nox ((pss_one (ps_ost (pv 0) (pv 1)))), ?_⟩
    refine ⟨_, rfl, _, rfl, a, c.TM, rfl, T.ex, T.exL, .inl ⟨ha, fun dx h1 h2 => ?_⟩⟩
    exact q dx h1 h2
theorem ps_TM {X : Cx} {W : WX} {e : Expr} {v : V} {p pos pos2 : Pos} (T : Tx X.K X.mg c) (hc : X.calm = true) (hr : Room 2 X.A) (tk : Takes X W) (hg : Gl X "TooMany") (he : PE X e (tC v))
    (hs : starEach (e :: []) X.env = (false, eval e X.env) :: starEach [] X.env := by rfl) (hpl : (backTo pos (starEach [] X.env)).any (·.1) = false := by rfl) :
    PS X (.Raise (some (.Call (.Name "TooMany" p) [e] [] pos)) none pos2) (fun _ σ H => ∀ d H', Same H H' → W (.ref c.TM) (some d) σ H') := by
  obtain ⟨fI, fd, h1, h2, F, B⟩ := ok_TMI (P := X.prog) (w := X.w) (base := X.base) T
  have q := ps_raise (pos := pos2) hc tk (pmk_oex (p := p) (pos := pos) T.ex h1 h2 F hr B .nil pass0 hg T.mg_TM (pa_cons he pa_nil (hs := hs)) (by decide) (he := hs) (hpl := hpl))
  refine ⟨fun pins s σ H D I h => q.run pins s σ H D I ?_⟩
  refine ⟨by show 1 ≤ 1000; omega, fun a ha => ⟨a, v, rfl, upd_same, fun dx h3 h4 => ⟨rfl, dx, [("limit", v)], upd_same, ?_, ?_, h dx _ fun b u hb => ?_⟩⟩⟩
  · exact (upd_ne h4).trans upd_same
  · have h5 := (upd_ne (o := exo a c.TM none) (H := H) h4).symm.trans h3
    exact h5
  · have hba : b ≠ a := fun z => by rw [z, ha] at hb; cases hb
    have h5 : H dx = none := (upd_ne (o := exo a c.TM none) (H := H) h4).symm.trans h3
    have hbd : b ≠ dx := fun z => by rw [z, h5] at hb; cases hb
    exact (upd_ne hbd).trans ((del_ne hba).trans ((upd_ne hba).trans ((upd_ne hbd).trans ((upd_ne hba).trans hb))))
end
end L2.Jw
set_option Elab.async false
set_option linter.all false
set_option maxRecDepth 100000
set_option maxHeartbeats 4000000
namespace L2.Jw
open PySem PySem.Spec PyProof.Rows
/-! ### the lots that are come to -/
def lotsOf (b : Brs) : List Lot := b.flatMap fun x => x.2.map Prod.snd
def childF (W : Wd) (tb : Tb) (st : Bool) (l : Lot) : Brs := if toldF W st l.2 = true then [] else brF W tb l.1 l.2
def rootF (W : Wd) (tb : Tb) : Brs := brF W tb "start" (allP W)
inductive Reach (W : Wd) (tb : Tb) (st : Bool) : Lot → Prop
  | root {l : Lot} : l ∈ lotsOf (rootF W tb) → Reach W tb st l
  | step {k l : Lot} : Reach W tb st k → l ∈ lotsOf (childF W tb st k) → Reach W tb st l
def Few (W : Wd) (tb : Tb) (st : Bool) : Prop := ∀ L : List Lot, L.Nodup → (∀ l ∈ L, Reach W tb st l) → L.length ≤ 600
structure TbWf (tb : Tb) : Prop where
  start : ∃ rs, tb.lookup ("start" : Str) = some rs
  few : ∀ s rs, tb.lookup s = some rs → rs.length ≤ 7
  goal : ∀ s rs, tb.lookup s = some rs → ∀ r ∈ rs, ∃ rs', tb.lookup r.2 = some rs'
structure LotOk (W : Wd) (tb : Tb) (l : Lot) : Prop where
  row : ∃ rs, tb.lookup l.1 = some rs
  inw : ∀ p ∈ l.2, inW W p
  len : l.2.length ≤ 200
  ne : l.2 ≠ []
theorem dd_len {α : Type} [DecidableEq α] (l : List α) : (dd l).length ≤ l.length := by
  induction l with
  | nil => exact Nat.le_refl _
  | cons x l ih =>
    show (if x ∈ dd l then dd l else x :: dd l).length ≤ _
    rw [List.length_cons]
    split
    · omega
    · rw [List.length_cons]; omega
theorem canon_len (l : List Pr) : (canon l).length ≤ l.length := by
  unfold canon
  rw [List.length_mergeSort]
  exact dd_len l
theorem widF_len (W : Wd) (ps : List Pr) (t : Int) : (widF W ps t).length ≤ ps.length := by
  unfold widF canonI
  rw [List.length_mergeSort]
  have := dd_len (ps.map fun p => (sqF W p t).2)
  rw [List.length_map] at this
  exact this
theorem mem_widF {W : Wd} {ps : List Pr} {t v : Int} : v ∈ widF W ps t ↔ ∃ p ∈ ps, (sqF W p t).2 = v := by
  unfold widF
  rw [mem_canonI, List.mem_map]
theorem mem_behF {W : Wd} {ps : List Pr} {t v : Int} {q : Pr} : q ∈ canon (behF W ps t v) ↔ ∃ p ∈ ps, (sqF W p t).2 = v ∧ (sqF W p t).1 = q := by
  rw [mem_canon]
  unfold behF
  rw [List.mem_map]
  constructor
  · rintro ⟨p, hp, e⟩
    rw [List.mem_filter] at hp
    exact ⟨p, hp.1, of_decide_eq_true hp.2, e⟩
  · rintro ⟨p, hp, h1, h2⟩
    exact ⟨p, List.mem_filter.mpr ⟨hp, decide_eq_true h1⟩, h2⟩
theorem behF_len (W : Wd) (ps : List Pr) (t v : Int) : (canon (behF W ps t v)).length ≤ ps.length := by
  refine Nat.le_trans (canon_len _) ?_
  unfold behF
  rw [List.length_map]
  exact List.length_filter_le _ _
section
variable {W : Wd} {tb : Tb} {st : Bool} {s : Str} {ps : List Pr}
theorem mem_lotsOf_brF {l : Lot} : l ∈ lotsOf (brF W tb s ps) ↔ ∃ r ∈ rulesF tb s, ∃ v ∈ widF W ps r.1, l = (r.2, canon (behF W ps r.1 v)) := by
  unfold lotsOf
  rw [List.mem_flatMap]
  constructor
  · rintro ⟨x, hx, h⟩
    obtain ⟨y, hy, rfl⟩ := List.mem_map.mp h
    unfold brF at hx
    obtain ⟨r, hr, rfl⟩ := List.mem_map.mp hx
    obtain ⟨q, hq, rfl⟩ := List.mem_map.mp hy
    unfold partF at hq
    obtain ⟨v, hv, rfl⟩ := List.mem_map.mp hq
    exact ⟨r, hr, v, hv, rfl⟩
  · rintro ⟨r, hr, v, hv, rfl⟩
    exact ⟨_, List.mem_map.mpr ⟨r, hr, rfl⟩, List.mem_map.mpr ⟨_, List.mem_map.mpr ⟨(v, canon (behF W ps r.1 v)), List.mem_map.mpr ⟨v, hv, rfl⟩, rfl⟩, rfl⟩⟩
theorem rulesF_some {rs : List Rl} (h : tb.lookup s = some rs) : rulesF tb s = rs := by
  unfold rulesF
  rw [h]
  rfl
theorem brF_ok (Tw : TbWf tb) (hs : ∃ rs, tb.lookup s = some rs) (hl : ps.length ≤ 200) (hne : ps ≠ []) : BrsOk (brF W tb s ps) := by
  obtain ⟨rs, hrs⟩ := hs
  refine ⟨?_, fun x hx => ?_, fun x hx => ?_⟩
  · unfold brF
    rw [List.length_map, rulesF_some hrs]
    exact Tw.few _ _ hrs
  · unfold brF at hx
    obtain ⟨r, hr, rfl⟩ := List.mem_map.mp hx
    constructor
    · intro hz
      obtain ⟨p, ps', rfl⟩ := List.exists_cons_of_ne_nil hne
      have h1 : (sqF W p r.1).2 ∈ widF W (p :: ps') r.1 := mem_widF.mpr ⟨p, List.mem_cons_self, rfl⟩
      unfold partF at hz
      have hz1 := List.map_eq_nil_iff.mp hz
      have hz2 := List.map_eq_nil_iff.mp hz1
      rw [hz2] at h1
      cases h1
    · show (List.map _ (partF W ps r.1)).length ≤ 200
      unfold partF
      rw [List.length_map, List.length_map]
      exact Nat.le_trans (widF_len W ps r.1) hl
  · unfold brF at hx
    obtain ⟨r, hr, rfl⟩ := List.mem_map.mp hx
    show ((List.map _ (partF W ps r.1)).map Prod.fst).Nodup
    unfold partF
    rw [List.map_map, List.map_map]
    have e : (List.map ((Prod.fst ∘ fun q : Int × List Pr => (q.1, (r.2, q.2))) ∘ fun w => (w, canon (behF W ps r.1 w))) (widF W ps r.1)) = widF W ps r.1 := List.map_id' (widF W ps r.1)
    rw [e]
    exact nodup_canonI _
theorem lots_ok (O : WOk W) (Tw : TbWf tb) (hs : ∃ rs, tb.lookup s = some rs) (hl : ps.length ≤ 200) (hin : ∀ p ∈ ps, inW W p) {l : Lot} (h : l ∈ lotsOf (brF W tb s ps)) : LotOk W tb l := by
  obtain ⟨rs, hrs⟩ := hs
  obtain ⟨r, hr, v, hv, rfl⟩ := mem_lotsOf_brF.mp h
  rw [rulesF_some hrs] at hr
  refine ⟨Tw.goal _ _ hrs _ hr, fun p hp => ?_, Nat.le_trans (behF_len _ _ _ _) hl, fun hz => ?_⟩
  · obtain ⟨q, hq, _, rfl⟩ := mem_behF.mp hp
    exact (land_in O (hin q hq) r.1).1
  · obtain ⟨p, hp, e⟩ := mem_widF.mp hv
    have : (sqF W p r.1).1 ∈ canon (behF W ps r.1 v) := mem_behF.mpr ⟨p, hp, e, rfl⟩
    have hz' : canon (behF W ps r.1 v) = [] := hz
    rw [hz'] at this
    cases this
theorem allP_ne (O : WOk W) : allP W ≠ [] := fun h => by
  have h1 := len_allP O
  have : (0, 0) ∈ allP W := by
    unfold allP
    refine List.mem_flatMap.mpr ⟨0, List.mem_range.mpr (by have := O.k1; omega), List.mem_map.mpr ⟨0, List.mem_range.mpr (by have := O.n1; omega), rfl⟩⟩
  rw [h] at this
  cases this
theorem child_ok (Tw : TbWf tb) {l : Lot} (h : LotOk W tb l) : BrsOk (childF W tb st l) := by
  unfold childF
  split
  · exact ⟨Nat.zero_le _, (fun x hx => by cases hx), (fun x hx => by cases hx)⟩
  · exact brF_ok Tw h.row h.len h.ne
theorem reach_ok (O : WOk W) (Tw : TbWf tb) {l : Lot} (h : Reach W tb st l) : LotOk W tb l := by
  induction h with
  | root h => exact lots_ok O Tw Tw.start (by have := len_allP O; omega) (fun p hp => mem_allP hp) h
  | @step k l hk h ih =>
    unfold childF at h
    split at h
    · cases h
    · exact lots_ok O Tw ih.row ih.len ih.inw h
theorem lotsOf_len {b : Brs} (h : BrsOk b) : (lotsOf b).length ≤ 1400 := by
  have : ∀ b : Brs, (∀ x ∈ b, x.2 ≠ [] ∧ x.2.length ≤ 200) → (lotsOf b).length ≤ 200 * b.length := by
    intro b
    induction b with
    | nil => intro _; exact Nat.le_refl _
    | cons x b ih =>
      intro h
      have h1 := (h x List.mem_cons_self).2
      have h2 := ih fun y hy => h y (List.mem_cons_of_mem _ hy)
      show (List.flatMap _ (x :: b)).length ≤ _
      rw [List.flatMap_cons, List.length_append, List.length_map, List.length_cons]
      have h3 : (List.flatMap (fun x : Int × List (Int × Lot) => x.2.map Prod.snd) b).length ≤ 200 * b.length := h2
      omega
  have h1 := this b h.lots
  have h2 := h.len
  omega
end
end L2.Jw
set_option Elab.async false
set_option linter.all false
set_option maxRecDepth 100000
set_option maxHeartbeats 4000000
namespace L2.Jw
open PySem PySem.Spec PyProof.Rows
section
variable {P : Program} {w : World} {K : PySem.W.Frag} {mg : Str → Option Value} {base : Heap} {c : Cs}
/-! ### what is kept when only dicts of lots are written -/
def KX (H H' : Hp) : Prop := ∀ b u, H b = some u → (∀ x, u ≠ .ext x) → H' b = some u
theorem KX.of {H H' : Hp} (e : Same H H') : KX H H' := fun b u h _ => e b u h
theorem KX.trans {H H1 H2 : Hp} (a : KX H H1) (b : KX H1 H2) : KX H H2 := fun x u h n => b x u (a x u h n) n
theorem KX.updO {H H1 : Hp} {p : Addr} {o : HO} (e : KX H H1) (hn : H p = none) : KX H (upd H1 p o) := fun b u h n => by
  rw [upd_ne (fun z => by rw [z, hn] at h; cases h)]
  exact e b u h n
theorem KX.tk {H H' : Hp} (e : KX H H') : TKeep K H H' := fun b xs h => by
  rcases h with (h | ⟨o, h⟩) | h
  · exact .inl (.inl (e _ _ h (fun x z => by cases z)))
  · exact .inl (.inr ⟨o, e _ _ h (fun x z => by cases z)⟩)
  · exact .inr h
theorem KX.fk {H H' : Hp} (e : KX H H') : FKeep H H' := fun b o u h => e _ _ h (fun x z => by cases z)
theorem LsLs.kx {H H' : Hp} {l : Addr} {xss : List (List Int)} (h : LsLs H l xss) (e : KX H H') : LsLs H' l xss := by
  obtain ⟨vs, h1, h2⟩ := h
  exact ⟨vs, e _ _ h1 (fun x z => by cases z), Paired.mapP h2 fun _ _ ⟨q, a, b⟩ => ⟨q, a, e _ _ b (fun x z => by cases z)⟩⟩
theorem JawsAt.kx {H H' : Hp} {a : Addr} {W : Wd} (h : JawsAt c H a W) (e : KX H H') : JawsAt c H' a W := by
  obtain ⟨dx, l, g, s, h1, h2, h3, h4⟩ := h.ob
  exact ⟨dx, l, g, s, e _ _ h1 (fun x z => by cases z), h2.kx e, h3.kx e, e _ _ h4 (fun x z => by cases z)⟩
theorem RulesX.kx {H H' : Hp} {kvs : List (Key × V)} {tb : Tb} (h : RulesX K H kvs tb) (e : KX H H') : RulesX K H' kvs tb := Paired.mapP h fun _ _ ⟨a, l, b, xs, h1, h2⟩ => ⟨a, l, b, xs, e _ _ h1 (fun x z => by cases z), rules_tkeep e.tk h2⟩
theorem LetAt.kx {H H' : Hp} {a : Addr} {N : Int} {tb : Tb} (h : LetAt K c H a N tb) (e : KX H H') : LetAt K c H' a N tb := by
  obtain ⟨dx, t, od, kvs, h1, h2, h3⟩ := h.ob
  exact ⟨dx, t, od, kvs, e _ _ h1 (fun x z => by cases z), e _ _ h2 (fun x z => by cases z), h3.kx e⟩
theorem BrAt.keep {H H' : Hp} {l : Addr} {b : Brs} (h : BrAt K H l b) (hl : ∀ vs, H l = some (.lst vs) → H' l = some (.lst vs)) (k : TKeep K H H') (f : FKeep H H') : BrAt K H' l b := by
  obtain ⟨vs, h1, h2⟩ := h.ob
  exact ⟨vs, hl _ h1, Paired.mapP h2 fun _ _ x => x.keep k f⟩
theorem BrAt.kx {H H' : Hp} {l : Addr} {b : Brs} (h : BrAt K H l b) (e : KX H H') : BrAt K H' l b := h.keep (fun vs h1 => e _ _ h1 (fun x z => by cases z)) e.tk e.fk
theorem NDictM.to {H H' : Hp} {d : Addr} {kvs : List (Lot × V)} (h : NDictM P w K H d kvs) (e : H' d = H d) (k : TKeep K H H') : NDictM P w K H' d kvs := by
  obtain ⟨kas, h1, h2⟩ := h
  exact ⟨kas, by rw [e]; exact h1, nrel_tkeep k h2⟩
theorem NDictM.ne {H : Hp} {d a : Addr} {kvs : List (Lot × V)} {o : HO} (h : NDictM P w K H d kvs) (ha : H a = some o) (hn : ∀ x, o ≠ .ext x) : a ≠ d := by
  obtain ⟨kas, h1, _⟩ := h
  intro z
  rw [z, h1] at ha
  exact hn _ (Option.some.inj ha).symm
theorem NDictM.live {H : Hp} {d : Addr} {kvs : List (Lot × V)} (h : NDictM P w K H d kvs) : H d ≠ none := by
  obtain ⟨kas, h1, _⟩ := h
  rw [h1]
  exact fun z => by cases z
theorem kx_put {H H' : Hp} {d : Addr} {kvs : List (Lot × V)} (h : NDictM P w K H d kvs) (e : ∀ b, b ≠ d → H' b = H b) : KX H H' := fun b u hb hn => by
  rw [e b (h.ne hb hn)]
  exact hb
theorem NDictM.same {H H' : Hp} {d : Addr} {kvs : List (Lot × V)} (h : NDictM P w K H d kvs) (e : Same H H') : NDictM P w K H' d kvs := by
  obtain ⟨kas, h1, h2⟩ := h
  exact ⟨kas, e _ _ h1, nrel_tkeep (tkeep_same e) h2⟩
/-! ### game.collect(): what stands when it goes round -/
def valIn (W : Wd) (st : Bool) (ks : List Lot) (l : Lot) : Option V := if l ∈ ks ∧ toldF W st l.2 = true then some (.int 0) else none
structure CSt (P : Program) (w : World) (K : PySem.W.Frag) (W : Wd) (tb : Tb) (st : Bool) (H0 H : Hp) (aw ch wa : Addr) (wl : List Lot) (kvs : List (Lot × V)) : Prop where
  kx : KX H0 H
  hw : ∃ ws, H aw = some (.lst ws) ∧ DpAll K H ws (wl.map lotD)
  hc : NDictM P w K H ch kvs
  hv : ∃ wkv, NDictM P w K H wa wkv ∧ wkv.length ≤ kvs.length ∧ ∀ l, valV wkv l = valIn W st (kvs.map Prod.fst) l
  br : ∀ p ∈ kvs, ∃ a, p.2 = .ref a ∧ a ≠ aw ∧ BrAt K H a (childF W tb st p.1)
structure CPu (W : Wd) (tb : Tb) (st : Bool) (n : Nat) (wl ks : List Lot) : Prop where
  few : ks.length ≤ 600
  nd : ks.Nodup
  rk : ∀ l ∈ ks, Reach W tb st l
  rw' : ∀ l ∈ wl, Reach W tb st l
  root : ∀ l ∈ lotsOf (rootF W tb), l ∈ wl
  cl : ∀ k ∈ ks, ∀ l ∈ lotsOf (childF W tb st k), l ∈ wl
  dn : ∀ i l, i < n → wl[i]? = some l → l ∈ ks
  len : wl.length ≤ 1400 + 1400 * ks.length
theorem CPu.old {W : Wd} {tb : Tb} {st : Bool} {n : Nat} {wl ks : List Lot} {l : Lot} (h : CPu W tb st n wl ks) (hl : wl[n]? = some l) (hk : l ∈ ks) : CPu W tb st (n + 1) wl ks := { h with
  dn := fun i m hi hm => by
    by_cases e : i = n
    · rw [e, hl] at hm
      cases hm
      exact hk
    · exact h.dn i m (by omega) hm }
theorem CPu.new {W : Wd} {tb : Tb} {st : Bool} {n : Nat} {wl ks : List Lot} {l : Lot} (h : CPu W tb st n wl ks) (O : WOk W) (Tw : TbWf tb) (hl : wl[n]? = some l) (hk : ¬ l ∈ ks) (hf : ks.length < 600) : CPu W tb st (n + 1) (wl ++ lotsOf (childF W tb st l)) (ks ++ [l]) := by
  have hr : Reach W tb st l := h.rw' l (List.mem_of_getElem? hl)
  have hll := lotsOf_len (child_ok (st := st) Tw (reach_ok O Tw hr))
  have hlen := h.len
  refine ⟨by rw [List.length_append, List.length_singleton]; omega, ?_, fun m hm => ?_, fun m hm => ?_, fun m hm => List.mem_append_left _ (h.root m hm), fun k hm m hmm => ?_, fun i m hi hm => ?_, ?_⟩
  · rw [List.nodup_append]
    refine ⟨h.nd, by simp, fun a ha b hb => ?_⟩
    rw [List.mem_singleton.mp hb]
    exact fun z => hk (z ▸ ha)
  · rcases List.mem_append.mp hm with hm | hm
    · exact h.rk m hm
    · rw [List.mem_singleton.mp hm]; exact hr
  · rcases List.mem_append.mp hm with hm | hm
    · exact h.rw' m hm
    · exact .step hr hm
  · rcases List.mem_append.mp hm with hm | hm
    · exact List.mem_append_left _ (h.cl k hm m hmm)
    · rw [List.mem_singleton.mp hm] at hmm
      exact List.mem_append_right _ hmm
  · have hnl : n < wl.length := (List.getElem?_eq_some_iff.mp hl).1
    rw [List.getElem?_append_left (by omega)] at hm
    by_cases e : i = n
    · rw [e, hl] at hm
      cases hm
      exact List.mem_append_right _ (List.mem_singleton.mpr rfl)
    · exact List.mem_append_left _ (h.dn i m (by omega) hm)
  · rw [List.length_append, List.length_append, List.length_singleton]
    omega
theorem val_keys {kvs : List (Lot × V)} {l : Lot} : (valV kvs l).isSome = true ↔ l ∈ kvs.map Prod.fst := by
  constructor
  · intro h
    obtain ⟨v, hv⟩ := Option.isSome_iff_exists.mp h
    exact valV_in hv
  · intro h
    cases hz : valV kvs l with
    | none => exact absurd h (valV_not hz)
    | some v => rfl
theorem valIn_snoc {W : Wd} {st : Bool} {ks : List Lot} {l m : Lot} : valIn W st (ks ++ [l]) m = if m = l then (if toldF W st l.2 = true then some (.int 0) else none) else valIn W st ks m := by
  unfold valIn
  by_cases e : m = l
  · subst e
    rw [if_pos rfl]
    by_cases h : toldF W st m.2 = true
    · rw [if_pos ⟨List.mem_append_right _ (List.mem_singleton.mpr rfl), h⟩, if_pos h]
    · rw [if_neg (fun z => h z.2), if_neg h]
  · rw [if_neg e]
    by_cases h : m ∈ ks ∧ toldF W st m.2 = true
    · rw [if_pos h, if_pos ⟨List.mem_append_left _ h.1, h.2⟩]
    · rw [if_neg h, if_neg (fun z => h ⟨(List.mem_append.mp z.1).elim id (fun y => absurd (List.mem_singleton.mp y) e), z.2⟩)]
end
end L2.Jw
set_option Elab.async false
set_option linter.all false
set_option maxRecDepth 100000
set_option maxHeartbeats 4000000
namespace L2.Jw
open PySem PySem.Spec PyProof.Rows
section
variable {P : Program} {w : World} {K : PySem.W.Frag} {mg : Str → Option Value} {base : Heap} {c : Cs}
/-- the choices, when all lots are found -/
structure ChAt (P : Program) (w : World) (K : PySem.W.Frag) (W : Wd) (tb : Tb) (st : Bool) (H : Hp) (ch : Addr) (kvs : List (Lot × V)) : Prop where
  d : NDictM P w K H ch kvs
  few : kvs.length ≤ 600
  nd : (kvs.map Prod.fst).Nodup
  all : ∀ l, l ∈ kvs.map Prod.fst ↔ Reach W tb st l
  br : ∀ p ∈ kvs, ∃ a, p.2 = .ref a ∧ BrAt K H a (childF W tb st p.1)
theorem CPu.all {W : Wd} {tb : Tb} {st : Bool} {n : Nat} {wl ks : List Lot} (h : CPu W tb st n wl ks) (hn : wl.length ≤ n) (l : Lot) : l ∈ ks ↔ Reach W tb st l := by
  have hw : ∀ l, l ∈ wl → l ∈ ks := fun l hl => by
    obtain ⟨i, hi, e⟩ := List.getElem_of_mem hl
    exact h.dn i l (by omega) (by rw [List.getElem?_eq_getElem hi, e])
  refine ⟨h.rk l, fun hr => ?_⟩
  induction hr with
  | root hl => exact hw _ (h.root _ hl)
  | step _ hl ih => exact hw _ (h.cl _ ih _ hl)
theorem lots_tkeep {H H' : Hp} (e : TKeep K H H') : ∀ {ls : List Lot} {vs : List V}, DpAll K H vs (ls.map lotD) → DpAll K H' vs (ls.map lotD)
  | [], vs, h => by
    have h' : DpAll K H vs [] := h
    cases h'
    exact .nil
  | l :: ls, vs, h => by
    have h' : DpAll K H vs (lotD l :: ls.map lotD) := h
    cases h' with
    | cons h1 h2 => exact .cons (lot_tkeep e h1) (lots_tkeep e h2)
theorem BrsOk.take {b : Brs} (h : BrsOk b) (i : Nat) : BrsOk (b.take i) := ⟨by rw [List.length_take]; have := h.len; omega, fun x hx => h.lots x (List.mem_of_mem_take hx), fun x hx => h.nd x (List.mem_of_mem_take hx)⟩
theorem but_fk {D : Addr} {H H' : Hp} {xs : List V} (e : But D H H') (h : H D = some (.lst xs)) : FKeep H H' := fun b o u hb => e _ _ hb (fun z => by rw [z, h] at hb; cases hb)
theorem NDictM.but {D d : Addr} {H H' : Hp} {xs : List V} {kvs : List (Lot × V)} (n : NDictM P w K H d kvs) (h : H D = some (.lst xs)) (e : But D H H') : NDictM P w K H' d kvs := by
  obtain ⟨kas, h1, h2⟩ := n
  exact ⟨kas, e _ _ h1 (fun z => by rw [z, h] at h1; cases h1), nrel_tkeep (e.tkeep h) h2⟩
theorem lotsx_dp {H : Hp} {kvs : List (Key × V)} {lots : List (Int × Lot)} (h : LotsX K H kvs lots) : DpAll K H (kvs.map Prod.snd) ((lots.map Prod.snd).map lotD) := by
  induction h with
  | nil => exact .nil
  | cons a _ ih => exact .cons a.2 ih
def spCollect (P : Program) (w : World) (K : PySem.W.Frag) (c : Cs) : Sp := fun vs H Q E => ∃ (g dx ja la ch wa op : Addr) (st bt : Bool) (W : Wd) (N : Int) (tb : Tb), vs = [.ref g] ∧ H g = some (.ins c.Ga dx (gameFs ja la st ch wa bt op)) ∧
  JawsAt c H ja W ∧ WOk W ∧ LetAt K c H la N tb ∧ TbWf tb ∧ ch ≠ wa ∧ NDictM P w K H ch [] ∧ NDictM P w K H wa [] ∧ BrAt K H op (rootF W tb) ∧ (¬ Few W tb st → ∀ d H', KX H H' → E (.ref c.TM) (some d) H') ∧
  ∀ H' kvs wkv, KX H H' → ChAt P w K W tb st H' ch kvs → NDictM P w K H' wa wkv → wkv.length ≤ 600 → (∀ l, valV wkv l = valIn W st (kvs.map Prod.fst) l) → Q .non H'
abbrev s_Game_collect : Stmt := inC 56 2
theorem c_Game_collect : FnScope ["self", "waiting", "at", "lot", "_", "lots"] ["self"] (defScope s_Game_collect) := ⟨rfl, rfl, rfl, by decide +kernel, rfl, by decide +kernel, by decide +kernel⟩
theorem b_Game_collect : Bnd0 "collect" "Game.collect" s_Game_collect ["self"] := fun _ _ _ _ _ _ us hl => match us, hl with | [_], _ => rfl
theorem e_Game_collect (T : Tx K mg c) : Me P w K mg base (CX P w) 4 c.Ga "collect" (spCollect P w K c) := by
  refine me_X T.cl_Ga T.M_Ga_collect c_Game_collect b_Game_collect (fun vs H Q E h => ?_) fun f cdv A outer s H vs Q E hr h => ?_
  · obtain ⟨g, dx, ja, la, ch, wa, op, st, bt, W, N, tb, rfl, _⟩ := h
    rfl
  · obtain ⟨g, dx, ja, la, ch, wa, op, st, bt, W, N, tb, rfl, hg, hJ, O, hL, Tw, hcw, hch, hwa, hop, hX, q⟩ := h
    refine ⟨_, (pss_cons (ps_setLc2 (i := 1) (own := [("_", 4), ("lots", 5), ("lot", 3)]) (g := (gTup K 2 (gCons (gName 4) (gCons (gName 5) gNil)))) (tt := tYes) (g1 := (gName 3)) (tt1 := tYes) (vs1 := [3]) (by rfl) c_Game_collect.nd rfl rfl (sw_true rfl rfl rfl (by decide +kernel)) (pi_list (pe_fld (pv 0) rfl)) (blkOk_by (own := [("_", 4), ("lots", 5), ("lot", 3)]) (N := ["self", "waiting", "at", "lot", "_", "lots"]) (sc := defScope s_Game_collect) (by decide +kernel)) (by decide) (fun _ _ _ _ _ => (pg_tup rfl (pgs_cons (pg_name (i := 4) c_Game_collect.nd rfl (Or.inl rfl)) (pgs_cons (pg_name (i := 5) c_Game_collect.nd rfl (Or.inl rfl)) pgs_nil)))) (fun _ _ _ _ _ => pts_nil) (fun _ _ _ _ _ => (pi_values (pv 5))) (fun _ _ _ _ _ => (pg_name (i := 3) c_Game_collect.nd rfl (Or.inl rfl))) (fun _ _ _ _ _ => pts_nil) (fun _ _ _ _ _ => (pv 3)))
      (pss_cons (ps_set (i := 2) c_Game_collect.nd rfl (Or.inl rfl) pe_int)
      (pss_one (ps_while (passes_of rfl) (pt_cmpR op_lt (pv 2) (pe_callB call_len_seq (by rfl) T.len (by decide +kernel) (pa_cons (pv 1) pa_nil)) (nomark _))
      (pss_cons (ps_set (i := 3) c_Game_collect.nd rfl (Or.inl rfl) (pe_ix (r := rIxL K) ix_list (pv 1) (pv 2) (fun _ _ => rfl)))
      (pss_cons (ps_aug (i := 2) c_Game_collect.nd rfl (.inl rfl) pe_int ip_add)
      (pss_cons (ps_if (pt_cmpR (op_nin hr.units) (pv 3) (pe_fld (pv 0) rfl) (by rfl)) (pss_one ps_continue) pss_nil)
      (pss_cons (ps_if (pt_cmpR op_eq (pe_callB cr_nlen (by rfl) T.len (by decide +kernel) (pa_cons (pe_fld (pv 0) rfl) pa_nil)) (pe_gI rfl T.MOST_ROWS_walks) (nomark _)) (pss_one (ps_TM T rfl (hr.mono (by decide)) (takes_of rfl rfl rfl rfl) rfl (pe_gI rfl T.MOST_ROWS_walks))) pss_nil)
      (pss_cons (ps_if (pt_val (pe_M (pe_fld (pv 0) rfl) (e_Jaws_is_told T) (hr.mono (by first | decide | omega)) pass0 (pa_cons (pe_ix (r := rIxT K) ix_tup (pv 3) pe_int (fun _ _ => rfl)) (pa_cons (pe_fld (pv 0) rfl) pa_nil)))) (pss_cons (ps_asg (pe_lst pa_nil) (pg_sub (pe_fld (pv 0) rfl) (pv 3) (set_nput hr.units) (fun _ => rfl)))
      (pss_cons (ps_asg pe_int (pg_sub (pe_fld (pv 0) rfl) (pv 3) (set_nput hr.units) (fun _ => rfl)))
      (pss_one ps_continue))) pss_nil)
      (pss_cons (ps_asg (pe_M (pv 0) (e_Game_branches T) (hr.mono (by first | decide | omega)) pass0 (pa_cons (pe_ix (r := rIxT K) ix_tup (pv 3) pe_int (fun _ _ => rfl)) (pa_cons (pe_ix (r := rIxT K) ix_tup (pv 3) pe_int (fun _ _ => rfl)) pa_nil))) (pg_sub (pe_fld (pv 0) rfl) (pv 3) (set_nput hr.units) (fun _ => rfl)))
      (pss_one (ps_for (passes_of rfl) rfl (pi_list (pe_ix (ix_nget hr.units) (pe_fld (pv 0) rfl) (pv 3) (fun _ _ => rfl))) (pg_tup rfl (pgs_cons (pg_name (i := 4) c_Game_collect.nd rfl (Or.inl rfl)) (pgs_cons (pg_name (i := 5) c_Game_collect.nd rfl (Or.inl rfl)) pgs_nil)))
      (pss_one (ps_expr (pe_bm PySem.F.plainAttrs_list PySem.F.slot_list_extend PySem.F.type_list_extend mt_extend (pv 1) (pa_cons (pe_listVals rfl (by rfl) T.list (pv 5)) pa_nil)))))))))))))))), ?_⟩
    obtain ⟨vo, ho1, ho2⟩ := hop.ob
    have hvl : vo.length = (rootF W tb).length := (Paired.len ho2).symm
    have hOk : BrsOk (rootF W tb) := brF_ok Tw Tw.start (by have := len_allP O; omega) (allP_ne O)
    have hO7 := hOk.len
    refine ⟨_, rfl, g, c.Ga, dx, _, _, rfl, hg, T.cl_Ga, T.n_Ga_opening, (by unfold gameFs; kernel_rfl), op, rfl, ⟨vo, SqL.of ho1⟩, fun D hD => ?_⟩
    refine wk walk_list (fun i H2 => Same H H2 ∧ ∃ acc, H2 D = some (.lst acc) ∧ DpAll K H2 acc ((lotsOf ((rootF W tb).take i)).map lotD)) ⟨same_new hD, [], upd_same, .nil⟩ (fun i H2 _ z => SqL.of (z.1 _ _ ho1)) ?_ ?_
    · rintro i x H2' H2 hi ⟨e2, acc, hacc, hda⟩ ⟨rfl, hx⟩
      obtain ⟨q1, hq1, qa, d, od, kvs, rfl, hsq, hd, hlx⟩ := paired_get ho2 hx
      obtain ⟨o1, o2⟩ := hOk.lots q1 (List.mem_of_getElem? hq1)
      have htk : (rootF W tb).take (i + 1) = (rootF W tb).take i ++ [q1] := by rw [List.take_succ, hq1]; rfl
      have hkl : kvs.length = q1.2.length := (Paired.len hlx).symm
      refine ⟨qa, _, rfl, same_sqT e2 hsq, rfl, _, _, rfl, _, _, rfl, rfl, rfl, ?_⟩
      refine ⟨_, rfl, d, od, kvs, rfl, e2 _ _ hd, ?_⟩
      refine wk walk_values (fun j H3 => Same H H3 ∧ ∃ acc, H3 D = some (.lst acc) ∧ DpAll K H3 acc ((lotsOf ((rootF W tb).take i) ++ (q1.2.take j).map Prod.snd).map lotD)) ⟨e2, acc, hacc, by rw [List.take_zero, List.map_nil, List.append_nil]; exact hda⟩ (fun j H3 _ z => z.1 _ _ hd) ?_ ?_
      · rintro j y H3' H3 hj ⟨e3, acc3, hacc3, hda3⟩ ⟨rfl, k, hk⟩
        obtain ⟨q2, hq2, hk1, hdp⟩ := paired_get hlx hk
        have hal := dpAll_len hda3
        rw [List.length_map, List.length_append, List.length_map, List.length_take] at hal
        have h14 := lotsOf_len (hOk.take i)
        have k3 : TKeep K H3 (upd H3 D (.lst (acc3 ++ [y]))) := lst_tkeep hacc3
        refine ⟨rfl, _, rfl, acc3, hacc3, (by rw [sizeLine_eq]; omega), same_updO e3 hD, acc3 ++ [y], upd_same, ?_⟩
        have htk2 : (q1.2.take (j + 1)).map Prod.snd = (q1.2.take j).map Prod.snd ++ [q2.2] := by rw [List.take_succ, hq2, List.map_append]; rfl
        rw [htk2, ← List.append_assoc, List.map_append]
        exact dpAll_app (lots_tkeep k3 hda3) (dpAll_one (lot_tkeep k3 (dp_same e3 _ _ hdp)))
      · rintro H3 ⟨e3, acc3, hacc3, hda3⟩
        refine ⟨e3, acc3, hacc3, ?_⟩
        rw [htk]
        unfold lotsOf at hda3 ⊢
        rw [List.flatMap_append, List.flatMap_singleton]
        rw [hkl, List.take_length] at hda3
        exact hda3
    · rintro H2 ⟨e2, acc, hacc, hda⟩
      rw [hvl, List.take_length] at hda
      have hal := dpAll_len hda
      rw [List.length_map] at hal
      have h14 := lotsOf_len hOk
      have chD : ch ≠ D := fun z => hch.live (by rw [z]; exact hD)
      have waD : wa ≠ D := fun z => hwa.live (by rw [z]; exact hD)
      refine ⟨fun m σ H3 => ∃ (n : Nat) (wl : List Lot) (kvs : List (Lot × V)) (x3 x4 x5 : Option V), m = (600 - kvs.length) * 2000 + (wl.length - n) ∧ σ = [some (.ref g), some (.ref D), some (.int (n : Nat)), x3, x4, x5] ∧ CSt P w K W tb st H H3 D ch wa wl kvs ∧ CPu W tb st n wl (kvs.map Prod.fst),
        ⟨_, 0, lotsOf (rootF W tb), [], none, none, none, rfl, rfl, ⟨KX.of e2, ⟨acc, hacc, hda⟩, hch.same e2, ⟨[], hwa.same e2, Nat.le_refl _, fun l => rfl⟩, (fun p hp => by cases hp)⟩,
          ⟨Nat.zero_le _, .nil, (fun l hl => by cases hl), (fun l hl => .root hl), (fun l hl => hl), (fun k hk => by cases hk), (fun i l hi => absurd hi (Nat.not_lt_zero _)), by omega⟩⟩, ?_⟩
      rintro m σ H3 ⟨n, wl, kvs, x3, x4, x5, rfl, rfl, S, U⟩
      obtain ⟨ws, haw, hdw⟩ := S.hw
      have hwl := dpAll_len hdw
      rw [List.length_map] at hwl
      have hg3 := S.kx _ _ hg (fun x z => by cases z)
      have hJ3 := hJ.kx S.kx
      have hL3 := hL.kx S.kx
      refine ⟨_, rfl, _, rfl, D, ws, rfl, .inl (SqL.of haw), _, _, rfl, rfl, _, rfl, ?_⟩
      by_cases hlt : n < wl.length
      · show if decide ((n : Int) < (ws.length : Nat)) = true then _ else _
        rw [if_pos (decide_eq_true (by rw [hwl]; exact_mod_cast hlt))]
        refine ⟨fun σ' H' => ∃ m', m' < (600 - kvs.length) * 2000 + (wl.length - n) ∧ ∃ (n : Nat) (wl : List Lot) (kvs : List (Lot × V)) (x3 x4 x5 : Option V), m' = (600 - kvs.length) * 2000 + (wl.length - n) ∧ σ' = [some (.ref g), some (.ref D), some (.int (n : Nat)), x3, x4, x5] ∧ CSt P w K W tb st H H' D ch wa wl kvs ∧ CPu W tb st n wl (kvs.map Prod.fst), fun σ' H' h => h, ?_⟩
        obtain ⟨y, hy⟩ : ∃ y, ws[n]? = some y := ⟨_, List.getElem?_eq_getElem (by omega)⟩
        obtain ⟨lot, hlot, hdl⟩ := dpAll_item hdw hy
        refine ⟨_, rfl, _, rfl, D, ws, _, y, rfl, rfl, SqL.of haw, atI_nat hy, ?_⟩
        refine ⟨_, rfl, _, _, rfl, rfl, ?_⟩
        refine ⟨_, rfl, _, rfl, g, c.Ga, dx, _, _, rfl, hg3, T.cl_Ga, T.n_Ga_choices, (by unfold gameFs; kernel_rfl), ch, kvs, lot, rfl, S.hc.rd, hdl, _, rfl, ?_⟩
        by_cases hin : lot ∈ kvs.map Prod.fst
        · rw [show (valV kvs lot).isSome = true from val_keys.mpr hin]
          refine iteT ⟨_, ?_, n + 1, wl, kvs, _, x4, x5, rfl, rfl, S, U.old hlot hin⟩
          omega
        · have hnone : valV kvs lot = none := by
            cases hz : valV kvs lot with
            | none => rfl
            | some z => exact absurd (valV_in hz) hin
          rw [hnone]
          refine iteF ?_
          refine ⟨_, rfl, g, c.Ga, dx, _, _, rfl, hg3, T.cl_Ga, T.n_Ga_choices, (by unfold gameFs; kernel_rfl), ch, kvs, rfl, S.hc.rd, rfl, _, rfl, ?_⟩
          by_cases h6 : kvs.length = 600
          · refine itD (by rw [h6]; rfl) ?_
            refine fun dE HE eE => hX (fun hF => ?_) dE HE (S.kx.trans (KX.of eE))
            have hm : (lot :: kvs.map Prod.fst).length ≤ 600 := hF _ (List.nodup_cons.mpr ⟨hin, U.nd⟩) fun l hl => by
              rcases List.mem_cons.mp hl with rfl | hl
              · exact U.rw' _ (List.mem_of_getElem? hlot)
              · exact U.rk _ hl
            rw [List.length_cons, List.length_map] at hm
            omega
          · refine itN (fun z => h6 (by have := V.int.inj z; exact_mod_cast this)) ?_
            have hk6 : kvs.length < 600 := by have := U.few; rw [List.length_map] at this; omega
            have hlo : LotOk W tb lot := reach_ok O Tw (U.rw' _ (List.mem_of_getElem? hlot))
            obtain ⟨ta, tp, tps, rfl, ht1, ht2, ht3⟩ := dp_lot hdl
            have hdp : Dp K H3 (.ref tp) (.tuple (lot.2.map prD)) := .tup ht2 ht3
            obtain ⟨dxj, l1, g1, s1, hj1, _⟩ := hJ3.ob
            have hnew := U.new O Tw hlot hin (by rw [List.length_map]; exact hk6)
            have hll := lotsOf_len (child_ok (st := st) Tw hlo)
            obtain ⟨wkv, hwk1, hwk2, hwk3⟩ := S.hv
            refine ⟨_, rfl, g, c.Ga, dx, _, _, rfl, hg3, T.cl_Ga, T.n_Ga_jaws, (by unfold gameFs; kernel_rfl), ja, dxj, _, rfl, hj1, (by unfold jawsFs; kernel_rfl), _, rfl, ta, _, _, _, rfl, rfl, ht1, atI1, _, rfl, g, c.Ga, dx, _, _, rfl, hg3, T.cl_Ga, T.n_Ga_strict, (by unfold gameFs; kernel_rfl), ja, .ref tp, st, W, lot.2, rfl, hJ3, O, hdp, hlo.ne, hlo.inw, _, rfl, ?_⟩
            by_cases htold : toldF W st lot.2 = true
            · rw [htold]
              refine iteT ?_
              have hch0 : childF W tb st lot = [] := by unfold childF; rw [if_pos htold]
              refine ⟨(by show 0 ≤ sizeLine; decide), fun F hF => ?_⟩
              have e4 := same_new (o := .lst []) hF
              have hc4 := S.hc.same e4
              refine ⟨_, rfl, g, c.Ga, dx, _, _, rfl, e4 _ _ hg3, T.cl_Ga, T.n_Ga_choices, (by unfold gameFs; kernel_rfl), _, rfl, ch, kvs, lot, rfl, hc4, dp_same e4 _ _ hdl, hnone, (by rw [sizeLine_eq]; omega), fun H5 h5 hc5 => ?_⟩
              have k45 : KX (upd H3 F (.lst [])) H5 := kx_put hc4 h5
              have hw5 : NDictM P w K H5 wa wkv := (hwk1.same e4).to (h5 _ hcw.symm) k45.tk
              have hg5 := k45 _ _ (e4 _ _ hg3) (fun x z => by cases z)
              have hwn : valV wkv lot = none := by
                rw [hwk3]
                unfold valIn
                rw [if_neg (fun z => hin z.1)]
              refine ⟨_, rfl, g, c.Ga, dx, _, _, rfl, hg5, T.cl_Ga, T.n_Ga_worth, (by unfold gameFs; kernel_rfl), _, rfl, wa, wkv, lot, rfl, hw5, lot_tkeep k45.tk (dp_same e4 _ _ hdl), hwn, (by rw [sizeLine_eq]; omega), fun H6 h6' hw6 => ?_⟩
              have k56 : KX H5 H6 := kx_put hw5 h6'
              have k36 : KX H3 H6 := ((KX.of e4).trans k45).trans k56
              have hlk : (kvs ++ [(lot, V.ref F)]).length = kvs.length + 1 := by rw [List.length_append]; rfl
              have hap : lotsOf (childF W tb st lot) = [] := by rw [hch0]; rfl
              rw [hap, List.append_nil] at hnew
              refine ⟨_, ?_, n + 1, wl, kvs ++ [(lot, V.ref F)], _, x4, x5, rfl, rfl, ⟨S.kx.trans k36, ⟨ws, k36 _ _ haw (fun x z => by cases z), lots_tkeep k36.tk hdw⟩, hc5.to (h6' _ hcw) k56.tk, ⟨_, hw6, ?_, fun l => ?_⟩, fun p hp => ?_⟩, ?_⟩
              · rw [hlk]; omega
              · rw [hlk, List.length_append, List.length_singleton]; omega
              · rw [List.map_append]
                show _ = valIn W st (kvs.map Prod.fst ++ [lot]) l
                rw [valV_snoc _ _ _ _ hwn, valIn_snoc, hwk3, if_pos htold]
              · rcases List.mem_append.mp hp with hp | hp
                · obtain ⟨a, h1, h2, h3⟩ := S.br p hp
                  exact ⟨a, h1, h2, h3.kx k36⟩
                · rw [List.mem_singleton.mp hp]
                  refine ⟨F, rfl, (fun z => by rw [z, haw] at hF; cases hF), ?_⟩
                  rw [hch0]
                  exact (BrAt.mk ⟨[], (upd_same (H := H3) (a := F)), .nil⟩ : BrAt K (upd H3 F (.lst [])) F []).kx (k45.trans k56)
              · rw [List.map_append]
                exact hnew
            · rw [Bool.eq_false_iff.mpr htold]
              refine iteF ?_
              have hch0 : childF W tb st lot = brF W tb lot.1 lot.2 := by unfold childF; rw [if_neg htold]
              obtain ⟨rs, hrs⟩ := hlo.row
              refine ⟨_, rfl, g, dx, _, rfl, hg3, (by unfold gameFs; kernel_rfl), _, rfl, ta, _, _, _, rfl, rfl, ht1, atI0, _, rfl, ta, _, _, _, rfl, rfl, ht1, atI1, g, dx, ja, la, gameFs ja la st ch wa bt op, lot.1, .ref tp, W, N, tb, lot.2, rfl, hg3, (by unfold gameFs; kernel_rfl), (by unfold gameFs; kernel_rfl), hJ3, O, hL3, ⟨rs, hrs, Tw.few _ _ hrs⟩, hdp, hlo.inw, hlo.len, fun H4 l e4 hl0 hbr => ?_⟩
              have hlD : l ≠ D := fun z => by rw [z, haw] at hl0; cases hl0
              have hc4 := S.hc.same e4
              refine ⟨_, rfl, g, c.Ga, dx, _, _, rfl, e4 _ _ hg3, T.cl_Ga, T.n_Ga_choices, (by unfold gameFs; kernel_rfl), _, rfl, ch, kvs, lot, rfl, hc4, dp_same e4 _ _ hdl, hnone, (by rw [sizeLine_eq]; omega), fun H5 h5 hc5 => ?_⟩
              have k45 : KX H4 H5 := kx_put hc4 h5
              have hw5 : NDictM P w K H5 wa wkv := (hwk1.same e4).to (h5 _ hcw.symm) k45.tk
              have hg5 := k45 _ _ (e4 _ _ hg3) (fun x z => by cases z)
              have k35 : KX H3 H5 := (KX.of e4).trans k45
              have hbr5 : BrAt K H5 l (childF W tb st lot) := by rw [hch0]; exact hbr.kx k45
              have haw5 := k35 _ _ haw (fun x z => by cases z)
              have hdw5 : DpAll K H5 ws (wl.map lotD) := lots_tkeep k35.tk hdw
              have hlk : (kvs ++ [(lot, V.ref l)]).length = kvs.length + 1 := by rw [List.length_append]; rfl
              obtain ⟨vb, hvb1, hvb2⟩ := hbr5.ob
              have hbok := child_ok (st := st) Tw hlo
              have hvbl : vb.length = (childF W tb st lot).length := (Paired.len hvb2).symm
              refine ⟨_, rfl, g, c.Ga, dx, _, _, rfl, hg5, T.cl_Ga, T.n_Ga_choices, (by unfold gameFs; kernel_rfl), _, rfl, ch, kvs ++ [(lot, .ref l)], lot, .ref l, rfl, hc5.rd, lot_tkeep k35.tk hdl, (by rw [valV_snoc _ _ _ _ hnone, if_pos rfl]), l, rfl, ⟨vb, SqL.of hvb1⟩, ?_⟩
              refine for_it walk_list (fun i σ H6 => But D H5 H6 ∧ ∃ (ws' : List V) (x4 x5 : Option V), σ = [some (.ref g), some (.ref D), some (.int ((n + 1 : Nat) : Int)), some (.ref ta), x4, x5] ∧ H6 D = some (.lst ws') ∧ DpAll K H6 ws' ((wl ++ lotsOf ((childF W tb st lot).take i)).map lotD))
                ⟨fun _ _ h _ => h, ws, x4, x5, rfl, haw5, by rw [List.take_zero]; show DpAll K H5 ws ((wl ++ []).map lotD); rw [List.append_nil]; exact hdw5⟩ (fun i σ H6 _ z => SqL.of (z.1 _ _ hvb1 hlD)) ?_ ?_
              · rintro i y σ H6' H6 hi ⟨b6, ws', x4, x5, rfl, hD6, hda6⟩ ⟨rfl, hx⟩
                obtain ⟨q1, hq1, qa, d, od, kvd, rfl, hsq, hd, hlx⟩ := paired_get hvb2 hx
                have t6 : TKeep K H5 H6 := b6.tkeep haw5
                have hd6 := but_fk b6 haw5 _ _ _ hd
                have hal := dpAll_len hda6
                rw [List.length_map, List.length_append] at hal
                have h14 := lotsOf_len (hbok.take i)
                have hln := U.len
                rw [List.length_map] at hln
                have htk : (childF W tb st lot).take (i + 1) = (childF W tb st lot).take i ++ [q1] := by rw [List.take_succ, hq1]; rfl
                have hq200 := (hbok.lots q1 (List.mem_of_getElem? hq1)).2
                have hkvl : kvd.length = q1.2.length := (Paired.len hlx).symm
                refine ⟨qa, _, rfl, t6 _ _ hsq, rfl, _, _, rfl, _, _, rfl, rfl, ?_⟩
                refine ⟨_, rfl, .inl ⟨rfl, _, SqL.of hD6⟩, _, rfl, d, kvd, rfl, .inr ⟨od, hd6⟩, fun qn hqn => ?_⟩
                have e7 := same_new (o := .lst (kvd.map Prod.snd)) hqn
                have t8 : TKeep K (upd H6 qn (.lst (kvd.map Prod.snd))) (upd (upd H6 qn (.lst (kvd.map Prod.snd))) D (.lst (ws' ++ kvd.map Prod.snd))) := lst_tkeep (e7 _ _ hD6)
                refine ⟨D, qn, ws', kvd.map Prod.snd, rfl, rfl, e7 _ _ hD6, upd_same, (by rw [List.length_map, sizeLine_eq]; omega), (b6.trans e7.but).trans but_upd, _, _, _, rfl, upd_same, ?_⟩
                rw [htk]
                have hlo2 : lotsOf ((childF W tb st lot).take i ++ [q1]) = lotsOf ((childF W tb st lot).take i) ++ q1.2.map Prod.snd := by unfold lotsOf; rw [List.flatMap_append, List.flatMap_singleton]
                rw [hlo2, ← List.append_assoc, List.map_append]
                exact dpAll_app (lots_tkeep t8 (lots_tkeep (tkeep_same e7) hda6)) (lots_tkeep t8 (lots_tkeep (tkeep_same e7) (lots_tkeep t6 (lotsx_dp hlx))))
              · rintro σ H6 ⟨b6, ws', x4, x5, rfl, hD6, hda6⟩
                rw [hvbl, List.take_length] at hda6
                have t6 : TKeep K H5 H6 := b6.tkeep haw5
                have f6 := but_fk b6 haw5
                refine ⟨_, ?_, n + 1, wl ++ lotsOf (childF W tb st lot), kvs ++ [(lot, V.ref l)], _, x4, x5, rfl, rfl, ⟨fun b u hb hn => ?_, ⟨ws', hD6, hda6⟩, hc5.but haw5 b6, ⟨wkv, hw5.but haw5 b6, ?_, fun m => ?_⟩, fun p hp => ?_⟩, ?_⟩
                · rw [hlk, List.length_append]; omega
                · exact b6 _ _ (k35 _ _ (S.kx _ _ hb hn) hn) (fun z => by rw [z, hD] at hb; cases hb)
                · rw [hlk]; omega
                · rw [List.map_append]
                  show _ = valIn W st (kvs.map Prod.fst ++ [lot]) m
                  rw [valIn_snoc, hwk3, if_neg htold]
                  by_cases em : m = lot
                  · rw [if_pos em, em]
                    unfold valIn
                    rw [if_neg (fun z => hin z.1)]
                  · rw [if_neg em]
                · rcases List.mem_append.mp hp with hp | hp
                  · obtain ⟨a, h1, h2, h3⟩ := S.br p hp
                    exact ⟨a, h1, h2, (h3.kx k35).keep (fun vs hv => b6 _ _ hv h2) t6 f6⟩
                  · rw [List.mem_singleton.mp hp]
                    exact ⟨l, rfl, hlD, hbr5.keep (fun vs hv => b6 _ _ hv hlD) t6 f6⟩
                · rw [List.map_append]
                  exact hnew
      · show if decide ((n : Int) < (ws.length : Nat)) = true then _ else _
        rw [if_neg (fun z => hlt (by have := of_decide_eq_true z; rw [hwl] at this; exact_mod_cast this))]
        obtain ⟨wkv, hw1, hw2, hw3⟩ := S.hv
        have hkl : (kvs.map Prod.fst).length = kvs.length := List.length_map ..
        have hf := U.few
        refine q H3 kvs wkv S.kx ⟨S.hc, by omega, U.nd, U.all (by omega), fun p hp => ?_⟩ hw1 (by omega) hw3
        obtain ⟨a, h1, _, h2⟩ := S.br p hp
        exact ⟨a, h1, h2⟩
end
end L2.Jw
set_option Elab.async false
set_option linter.all false
set_option maxRecDepth 100000
set_option maxHeartbeats 4000000
namespace L2.Jw
open PySem PySem.Spec PyProof.Rows
section
variable {P : Program} {w : World} {K : PySem.W.Frag} {mg : Str → Option Value} {base : Heap} {c : Cs}
theorem walk_nitems {d : Addr} {o : Obj} {kas : List (NestedKey × Addr × V)} : Walk (Itn P w d o kas) kas.length (fun H => H d = some (.frz o (NDO P w d kas))) (fun i H x H' => ∃ T ka, kas[i]? = some ka ∧ x = .ref T ∧ H T = none ∧ H' = upd H T (.tup [.ref ka.2.1, ka.2.2])) :=
  ⟨fun i H hi h => ⟨h, hi⟩, fun H h => ⟨h, Nat.le_refl _⟩, fun i H x H' _ _ y => y⟩
theorem kx_ext {H : Hp} {d : Addr} {x : Heap → Prop} (h : H d = some (.ext x)) (o : HO) : KX H (upd H d o) := fun b u hb hn => by
  rw [upd_ne (fun z => by rw [z, h] at hb; exact hn _ (Option.some.inj hb).symm)]
  exact hb
theorem tk_frx {H : Hp} {d : Addr} {od : Obj} {x : Heap → Prop} (h : H d = some (.frz od (.ext x))) (o : HO) : TKeep K H (upd H d o) := fun b xs hb => by
  rcases hb with (hb | ⟨o2, hb⟩) | hb
  · exact .inl (.inl (by rw [upd_ne (fun z => by rw [z, h] at hb; cases hb)]; exact hb))
  · exact .inl (.inr ⟨o2, by rw [upd_ne (fun z => by rw [z, h] at hb; cases hb)]; exact hb⟩)
  · exact .inr hb
/-! ### game.weigh(most) -/
def stepV (W : Wd) (tb : Tb) (st : Bool) (ks : List Lot) (n : Int) (wv : Lot → Option Int) : Lot → Option Int := fun l =>
  match wv l with
  | some k => some k
  | none => if l ∈ ks ∧ leastF wv (childF W tb st l) n = n then some n else none
def baseV (W : Wd) (st : Bool) (ks : List Lot) : Lot → Option Int := fun l => if l ∈ ks ∧ toldF W st l.2 = true then some 0 else none
def weighF (W : Wd) (tb : Tb) (st : Bool) (ks : List Lot) : Nat → Lot → Option Int
  | 0 => baseV W st ks
  | n + 1 => stepV W tb st ks ((n + 1 : Nat) : Int) (weighF W tb st ks n)
def newF (W : Wd) (tb : Tb) (st : Bool) (n : Int) (wv : Lot → Option Int) (l : Lot) : Bool := (wv l).isNone && decide (leastF wv (childF W tb st l) n = n)
theorem stepV_new {W : Wd} {tb : Tb} {st : Bool} {ks : List Lot} {n : Int} {wv : Lot → Option Int} (l : Lot) : stepV W tb st ks n wv l = if l ∈ ks.filter (newF W tb st n wv) then some n else wv l := by
  unfold stepV
  cases hv : wv l with
  | some k =>
    have hz : ¬ l ∈ ks.filter (newF W tb st n wv) := fun z => by
      have := (List.mem_filter.mp z).2
      unfold newF at this
      rw [hv] at this
      cases this
    rw [if_neg hz]
  | none =>
    show (if _ then _ else _) = _
    by_cases h : l ∈ ks ∧ leastF wv (childF W tb st l) n = n
    · rw [if_pos h, if_pos (List.mem_filter.mpr ⟨h.1, by unfold newF; rw [hv, decide_eq_true h.2]; rfl⟩)]
    · have hz : ¬ l ∈ ks.filter (newF W tb st n wv) := fun z => h ⟨(List.mem_filter.mp z).1, by
        have := (List.mem_filter.mp z).2
        unfold newF at this
        rw [hv] at this
        exact of_decide_eq_true this⟩
      rw [if_neg h, if_neg hz]
theorem kas_item {H : Hp} {kvs : List (Lot × V)} {kas : List (NestedKey × Addr × V)} (r : NRel K H kvs kas) {i : Nat} {ka : NestedKey × Addr × V} (h : kas[i]? = some ka) : ∃ p, kvs[i]? = some p ∧ ka.2.2 = p.2 ∧ Dp K H (.ref ka.2.1) (lotD p.1) := by
  obtain ⟨p, hp, h1, h2, h3⟩ := paired_get r h
  exact ⟨p, hp, h2, h3⟩
theorem valV_app {a b : List (Lot × V)} (m : Lot) : valV (a ++ b) m = (valV a m).or (valV b m) := by
  unfold valV
  rw [List.find?_append]
  cases List.find? (fun kv => decide (kv.1 = m)) a <;> rfl
theorem valV_const (v : V) (m : Lot) : ∀ ls : List Lot, valV (ls.map fun l => (l, v)) m = if m ∈ ls then some v else none
  | [] => rfl
  | l :: ls => by
    rw [List.map_cons]
    by_cases e : l = m
    · rw [valV_pos e, if_pos (by rw [e]; exact List.mem_cons_self)]
    · rw [valV_neg e, valV_const v m ls]
      by_cases h : m ∈ ls
      · rw [if_pos h, if_pos (List.mem_cons_of_mem _ h)]
      · rw [if_neg h, if_neg (fun z => h ((List.mem_cons.mp z).elim (fun y => absurd y.symm e) id))]
theorem valV_new {a : List (Lot × V)} {ls : List Lot} (v : V) (hn : ∀ l ∈ ls, valV a l = none) (m : Lot) : valV (a ++ ls.map fun l => (l, v)) m = if m ∈ ls then some v else valV a m := by
  rw [valV_app, valV_const]
  by_cases h : m ∈ ls
  · rw [if_pos h, if_pos h, hn m h]
    rfl
  · rw [if_neg h, if_neg h]
    cases valV a m <;> rfl
def spWeigh (P : Program) (w : World) (K : PySem.W.Frag) (c : Cs) : Sp := fun vs H Q _ => ∃ (g dx ja la ch wa op : Addr) (st bt : Bool) (W : Wd) (tb : Tb) (m : Nat) (kvs wkv : List (Lot × V)), vs = [.ref g, .int (m : Int)] ∧ m ≤ 12 ∧ H g = some (.ins c.Ga dx (gameFs ja la st ch wa bt op)) ∧
  WOk W ∧ TbWf tb ∧ ch ≠ wa ∧ ChAt P w K W tb st H ch kvs ∧ NDictM P w K H wa wkv ∧ wkv.length ≤ 600 ∧ (∀ l, valV wkv l = valIn W st (kvs.map Prod.fst) l) ∧
  ∀ H' wkv', KX H H' → ChAt P w K W tb st H' ch kvs → NDictM P w K H' wa wkv' → (∀ l, valV wkv' l = (weighF W tb st (kvs.map Prod.fst) m l).map V.int) → Q .non H'
abbrev s_Game_weigh : Stmt := inC 56 4
theorem c_Game_weigh : FnScope ["self", "most", "count", "fresh", "lot", "choices"] ["self", "most"] (defScope s_Game_weigh) := ⟨rfl, rfl, rfl, by decide +kernel, rfl, by decide +kernel, by decide +kernel⟩
theorem b_Game_weigh : Bnd0 "weigh" "Game.weigh" s_Game_weigh ["self", "most"] := fun _ _ _ _ _ _ us hl => match us, hl with | [_, _], _ => rfl
theorem e_Game_weigh (T : Tx K mg c) : Me P w K mg base CX0 3 c.Ga "weigh" (spWeigh P w K c) := by
  refine me_0 T.cl_Ga T.M_Ga_weigh c_Game_weigh b_Game_weigh (fun vs H Q E h => ?_) fun f cdv A outer s H vs Q E hr h => ?_
  · obtain ⟨g, dx, ja, la, ch, wa, op, st, bt, W, tb, m, kvs, wkv, rfl, _⟩ := h
    rfl
  · obtain ⟨g, dx, ja, la, ch, wa, op, st, bt, W, tb, m, kvs, wkv, rfl, hm, hg, O, Tw, hcw, hC, hw, hwl, hwv, q⟩ := h
    refine ⟨_, (pss_one (ps_for PassesOwn.never rfl (pi_range2 (by rfl) T.range (pa_cons pe_int (pa_cons (pe_op op_add (pv 1) pe_int) pa_nil))) (pg_name (i := 2) c_Game_weigh.nd rfl (Or.inl rfl))
      (pss_cons (ps_set (i := 3) c_Game_weigh.nd rfl (Or.inl rfl) (pe_lst pa_nil))
      (pss_cons (ps_lock (ps_for PassesOwn.never rfl (pi_nitems (pe_fld (pv 0) rfl)) (pg_tup rfl (pgs_cons (pg_name (i := 4) c_Game_weigh.nd rfl (Or.inl rfl)) (pgs_cons (pg_name (i := 5) c_Game_weigh.nd rfl (Or.inl rfl)) pgs_nil)))
      (pss_one (ps_if (PW.pt (pw_and (pt_cmpR (op_nnotin hr.units) (pv 4) (pe_fld (pv 0) rfl) (by rfl)) (pw_and1 (pt_cmpR op_eq (pe_M (pv 0) (e_Game_least T) (hr.mono (by first | decide | omega)) pass0 (pa_cons (pv 5) (pa_cons (pv 2) pa_nil))) (pv 2) (nomark _))))) (pss_one (ps_expr (pe_bm PySem.F.plainAttrs_list PySem.F.slot_list_append PySem.F.type_list_append mt_append (pv 3) (pa_cons (pv 4) pa_nil)))) pss_nil))))
      (pss_one (ps_for PassesOwn.never rfl (pi_list (pv 3)) (pg_name (i := 4) c_Game_weigh.nd rfl (Or.inl rfl))
      (pss_one (ps_asg (pv 2) (pg_sub (pe_fld (pv 0) rfl) (pv 4) (set_nput hr.units) (fun _ => rfl)))))))))), ?_⟩
    have hkl : (kvs.map Prod.fst).length = kvs.length := List.length_map ..
    have hkf := hC.few
    refine ⟨_, rfl, _, _, rfl, rfl, 1, (m : Int) + 1, rfl, ⟨by omega, by omega, by omega, by omega⟩, ?_⟩
    have hm' : ((m : Int) + 1 - 1).toNat = m := by omega
    refine for_it (n := ((m : Int) + 1 - 1).toNat) (walk_range (lo := 1)) (fun i σ H2 => KX H H2 ∧ ∃ (wkv : List (Lot × V)) (x2 x3 x4 x5 : Option V), σ = [some (.ref g), some (.int (m : Int)), x2, x3, x4, x5] ∧ NDictM P w K H2 ch kvs ∧ NDictM P w K H2 wa wkv ∧ wkv.length ≤ 600 + 600 * i ∧ ∀ l, valV wkv l = (weighF W tb st (kvs.map Prod.fst) i l).map V.int)
      ⟨KX.of (fun _ _ h => h), wkv, none, none, none, none, rfl, hC.d, hw, hwl, fun l => ?_⟩ (fun _ _ _ _ _ => True.intro) ?_ ?_
    · rw [hwv]
      show valIn W st _ l = (baseV W st _ l).map V.int
      unfold valIn baseV
      split <;> rfl
    · rintro i x σ H2' H2 hi ⟨k2, wkv2, x2, x3, x4, x5, rfl, hc2, hw2, hwl2, hwv2⟩ ⟨rfl, rfl⟩
      have hg2 := k2 _ _ hg (fun x z => by cases z)
      have hi12 : i < 12 := by omega
      refine ⟨(by show 0 ≤ sizeLine; decide), fun F hF => ?_⟩
      have eF := same_new (o := .lst []) hF
      obtain ⟨kas, hkas, hrel⟩ := hc2.same eF
      have hkasl : kas.length = kvs.length := (Paired.len hrel).symm
      refine ⟨ch, _, hkas, True.intro, fun od => ?_⟩
      have chg : g ≠ ch := fun z => by rw [← z, eF _ _ hg2] at hkas; cases hkas
      have chF : F ≠ ch := fun z => by rw [← z, upd_same] at hkas; cases hkas
      have kL := kx_ext hkas (.frz od (NDO P w ch kas))
      have hw4 : NDictM P w K (upd (upd H2 F (.lst [])) ch (.frz od (NDO P w ch kas))) wa wkv2 := (hw2.same eF).to (upd_ne hcw.symm) kL.tk
      have hFL : upd (upd H2 F (.lst [])) ch (.frz od (NDO P w ch kas)) F = some (.lst []) := (upd_ne chF).trans upd_same
      have hrelL : NRel K (upd (upd H2 F (.lst [])) ch (.frz od (NDO P w ch kas))) kvs kas := nrel_tkeep kL.tk hrel
      have hgL := kL _ _ (eF _ _ hg2) (fun x z => by cases z)
      have hcL : upd (upd H2 F (.lst [])) ch (.frz od (NDO P w ch kas)) ch = some (.frz od (NDO P w ch kas)) := upd_same
      have hbrL : ∀ p ∈ kvs, ∃ a, p.2 = .ref a ∧ a ≠ F ∧ BrAt K (upd (upd H2 F (.lst [])) ch (.frz od (NDO P w ch kas))) a (childF W tb st p.1) := fun p hp => by
        obtain ⟨a, h1, h2⟩ := hC.br p hp
        have h3 := h2.kx k2
        refine ⟨a, h1, fun z => ?_, (h3.same eF).kx kL⟩
        obtain ⟨vs, h4, _⟩ := h3.ob
        rw [z, hF] at h4
        cases h4
      generalize upd (upd H2 F (.lst [])) ch (.frz od (NDO P w ch kas)) = HL at kL hw4 hFL hrelL hgL hcL hbrL
      refine ⟨_, rfl, g, c.Ga, dx, _, _, rfl, hgL, T.cl_Ga, T.n_Ga_choices, (by unfold gameFs; kernel_rfl), ch, od, kas, rfl, hcL, ?_⟩
      refine for_it walk_nitems (fun j σ H4 => But F HL H4 ∧ ∃ (fs : List V) (x4 x5 : Option V), σ = [some (.ref g), some (.int (m : Int)), some (.int (1 + (i : Int))), some (.ref F), x4, x5] ∧ H4 F = some (.lst fs) ∧ fs.length ≤ j ∧ DpAll K H4 fs ((((kvs.map Prod.fst).take j).filter (newF W tb st (1 + (i : Int)) (weighF W tb st (kvs.map Prod.fst) i))).map lotD))
        ⟨fun _ _ h _ => h, [], x4, x5, rfl, hFL, Nat.le_refl _, .nil⟩ (fun j σ H4 _ z => z.1 _ _ hcL chF.symm) ?_ ?_
      · rintro j x σ H4 H4' hj ⟨b4, fs, x4, x5, rfl, hF4, hfl, hda4⟩ ⟨Tp, ka, hka, rfl, hTp, rfl⟩
        obtain ⟨p, hp, hpv, hpd⟩ := kas_item hrelL hka
        obtain ⟨la', hla, hlaF, hbr⟩ := hbrL p (List.mem_of_getElem? hp)
        have eT := same_new (o := .tup [.ref ka.2.1, ka.2.2]) hTp
        have t4 : TKeep K HL H4 := b4.tkeep hFL
        have f4 := but_fk b4 hFL
        have hw5 : NDictM P w K (upd H4 Tp (.tup [.ref ka.2.1, ka.2.2])) wa wkv2 := (hw4.but hFL b4).same eT
        have hg5 := eT _ _ (b4 _ _ hgL (fun z => by rw [z, hFL] at hgL; cases hgL))
        have hd5 : Dp K (upd H4 Tp (.tup [.ref ka.2.1, ka.2.2])) (.ref ka.2.1) (lotD p.1) := dp_same eT _ _ (lot_tkeep t4 hpd)
        have hb5 : BrAt K (upd H4 Tp (.tup [.ref ka.2.1, ka.2.2])) la' (childF W tb st p.1) := (hbr.keep (fun vs hv => b4 _ _ hv hlaF) t4 f4).same eT
        have hlot : (kvs.map Prod.fst)[j]? = some p.1 := by rw [List.getElem?_map, hp]; rfl
        have htk : (kvs.map Prod.fst).take (j + 1) = (kvs.map Prod.fst).take j ++ [p.1] := by rw [List.take_succ, hlot]; rfl
        have hok := reach_ok O Tw ((hC.all _).mp (List.mem_of_getElem? hlot))
        rw [hpv, hla] at hg5 hw5 hd5 hb5 eT ⊢
        refine ⟨Tp, _, rfl, SqT.of upd_same, rfl, _, _, rfl, _, _, rfl, rfl, ?_⟩
        refine ⟨_, rfl, _, rfl, g, c.Ga, dx, _, _, rfl, hg5, T.cl_Ga, T.n_Ga_worth, (by unfold gameFs; kernel_rfl), wa, wkv2, p.1, rfl, hw5.rd, hd5, _, rfl, ?_⟩
        have hbut : But F HL (upd H4 Tp (.tup [.ref ka.2.1, .ref la'])) := b4.trans eT.but
        have hF5 := eT _ _ hF4
        have hda5 := lots_tkeep (tkeep_same eT) hda4
        have hskip : newF W tb st (1 + (i : Int)) (weighF W tb st (kvs.map Prod.fst) i) p.1 = false → ∀ x4 x5 : Option V, But F HL (upd H4 Tp (.tup [.ref ka.2.1, .ref la'])) ∧ ∃ (fs' : List V) (y4 y5 : Option V), [some (.ref g), some (.int (m : Int)), some (.int (1 + (i : Int))), some (.ref F), x4, x5] = [some (.ref g), some (.int (m : Int)), some (.int (1 + (i : Int))), some (.ref F), y4, y5] ∧ upd H4 Tp (.tup [.ref ka.2.1, .ref la']) F = some (.lst fs') ∧ fs'.length ≤ j + 1 ∧ DpAll K (upd H4 Tp (.tup [.ref ka.2.1, .ref la'])) fs' ((((kvs.map Prod.fst).take (j + 1)).filter (newF W tb st (1 + (i : Int)) (weighF W tb st (kvs.map Prod.fst) i))).map lotD) := fun hz x4 x5 => by
          refine ⟨hbut, fs, x4, x5, rfl, hF5, by omega, ?_⟩
          rw [htk, List.filter_append, List.filter_cons_of_neg (by rw [hz]; exact Bool.false_ne_true), List.filter_nil, List.append_nil]
          exact hda5
        rw [hwv2]
        cases hwp : weighF W tb st (kvs.map Prod.fst) i p.1 with
        | some k =>
          refine iteF ?_
          exact hskip (by unfold newF; rw [hwp]; rfl) _ _
        | none =>
          refine iteT ?_
          refine ⟨_, rfl, g, dx, _, rfl, hg5, (by unfold gameFs; kernel_rfl), _, rfl, _, rfl, g, dx, la', ja, la, ch, wa, op, st, bt, weighF W tb st (kvs.map Prod.fst) i, childF W tb st p.1, 1 + (i : Int), rfl, hg5, ⟨wkv2, hw5.rd, hwv2⟩, hb5, child_ok Tw hok, fun H6 e6 => ?_⟩
          refine ⟨_, rfl, rfl, _, rfl, ?_⟩
          by_cases heq : leastF (weighF W tb st (kvs.map Prod.fst) i) (childF W tb st p.1) (1 + (i : Int)) = 1 + (i : Int)
          · refine itD (congrArg V.int heq) ?_
            have hF6 := e6 _ _ hF5
            have t7 : TKeep K H6 (upd H6 F (.lst (fs ++ [.ref ka.2.1]))) := lst_tkeep hF6
            refine ⟨_, rfl, .inl ⟨rfl, _, SqL.of hF6⟩, _, rfl, F, fs, _, rfl, rfl, hF6, small1000 (by omega), (hbut.trans e6.but).trans but_upd, _, _, _, rfl, upd_same, (by rw [List.length_append, List.length_singleton]; omega), ?_⟩
            rw [htk, List.filter_append, List.filter_cons_of_pos (by unfold newF; rw [hwp, decide_eq_true heq]; rfl), List.filter_nil, List.map_append]
            exact dpAll_app (lots_tkeep t7 (lots_tkeep (tkeep_same e6) hda5)) (dpAll_one (lot_tkeep t7 (dp_same e6 _ _ hd5)))
          · refine itN (fun z => heq (V.int.inj z)) ?_
            obtain ⟨b1, fs', y4, y5, he, b2, b3, b4'⟩ := hskip (by unfold newF; rw [hwp, decide_eq_false heq]; rfl) (some (.ref ka.2.1)) (some (.ref la'))
            exact ⟨b1.trans e6.but, fs', y4, y5, he, e6 _ _ b2, b3, lots_tkeep (tkeep_same e6) b4'⟩
      · rintro σ H4 ⟨b4, fs, x4, x5, rfl, hF4, hfl, hda4⟩
        rw [hkasl, show (kvs.map Prod.fst).take kvs.length = kvs.map Prod.fst from by rw [← hkl, List.take_length]] at hda4
        have hc4 := b4 _ _ hcL chF.symm
        refine ⟨hc4, ?_⟩
        have t45 : TKeep K H4 (upd H4 ch (NDO P w ch kas)) := tk_frx hc4 _
        have k5 : KX H (upd H4 ch (NDO P w ch kas)) := fun b u hb hn => by
          have h2 := k2 b u hb hn
          have h3 := eF b u h2
          have hbc : b ≠ ch := fun z => by rw [z, hkas] at h3; exact hn _ (Option.some.inj h3).symm
          have hbF : b ≠ F := fun z => by rw [z, hF] at h2; cases h2
          rw [upd_ne hbc]
          exact b4 b u (kL b u h3 hn) hbF
        have hc5 : NDictM P w K (upd H4 ch (NDO P w ch kas)) ch kvs := ⟨kas, upd_same, nrel_tkeep t45 (nrel_tkeep (b4.tkeep hFL) hrelL)⟩
        have hw5 : NDictM P w K (upd H4 ch (NDO P w ch kas)) wa wkv2 := (hw4.but hFL b4).to (upd_ne hcw.symm) t45
        have hF5 : upd H4 ch (NDO P w ch kas) F = some (.lst fs) := (upd_ne chF).trans hF4
        have hda5 := lots_tkeep t45 hda4
        generalize upd H4 ch (NDO P w ch kas) = H5 at k5 hc5 hw5 hF5 hda5
        have hg5 := k5 _ _ hg (fun x z => by cases z)
        have hci : (1 + (i : Int)) = ((i + 1 : Nat) : Int) := by omega
        have hnd : (((kvs.map Prod.fst)).filter (newF W tb st (1 + (i : Int)) (weighF W tb st (kvs.map Prod.fst) i))).Nodup := hC.nd.filter _
        have hnl : (((kvs.map Prod.fst)).filter (newF W tb st (1 + (i : Int)) (weighF W tb st (kvs.map Prod.fst) i))).length ≤ 600 := by
          have := List.length_filter_le (newF W tb st (1 + (i : Int)) (weighF W tb st (kvs.map Prod.fst) i)) (kvs.map Prod.fst)
          omega
        have hnn : ∀ l ∈ ((kvs.map Prod.fst)).filter (newF W tb st (1 + (i : Int)) (weighF W tb st (kvs.map Prod.fst) i)), valV wkv2 l = none := fun l hl => by
          have := (List.mem_filter.mp hl).2
          unfold newF at this
          rw [hwv2]
          cases hz : weighF W tb st (kvs.map Prod.fst) i l with
          | none => rfl
          | some k => rw [hz] at this; cases this
        have hfin : ∀ l, valV (wkv2 ++ (((kvs.map Prod.fst)).filter (newF W tb st (1 + (i : Int)) (weighF W tb st (kvs.map Prod.fst) i))).map fun l => (l, V.int (1 + (i : Int)))) l = (weighF W tb st (kvs.map Prod.fst) (i + 1) l).map V.int := fun l => by
          rw [valV_new _ hnn]
          show _ = (stepV W tb st (kvs.map Prod.fst) ((i + 1 : Nat) : Int) (weighF W tb st (kvs.map Prod.fst) i) l).map V.int
          rw [← hci, stepV_new]
          by_cases h : l ∈ ((kvs.map Prod.fst)).filter (newF W tb st (1 + (i : Int)) (weighF W tb st (kvs.map Prod.fst) i))
          · rw [if_pos h, if_pos h]; rfl
          · rw [if_neg h, if_neg h, hwv2]
        have hgi : ∀ l ∈ ((kvs.map Prod.fst)).filter (newF W tb st (1 + (i : Int)) (weighF W tb st (kvs.map Prod.fst) i)), l ∈ kvs.map Prod.fst := fun l hl => (List.mem_filter.mp hl).1
        generalize ((kvs.map Prod.fst)).filter (newF W tb st (1 + (i : Int)) (weighF W tb st (kvs.map Prod.fst) i)) = nl at hda5 hnd hnl hnn hfin hgi
        have hfsl := dpAll_len hda5
        rw [List.length_map] at hfsl
        refine ⟨_, rfl, F, rfl, ⟨fs, SqL.of hF5⟩, ?_⟩
        refine for_it walk_list (fun j σ H6 => KX H5 H6 ∧ ∃ y4 : Option V, σ = [some (.ref g), some (.int (m : Int)), some (.int (1 + (i : Int))), some (.ref F), y4, x5] ∧ NDictM P w K H6 ch kvs ∧ NDictM P w K H6 wa (wkv2 ++ (nl.take j).map fun l => (l, V.int (1 + (i : Int)))))
          ⟨KX.of (fun _ _ h => h), x4, rfl, hc5, by rw [List.take_zero, List.map_nil, List.append_nil]; exact hw5⟩ (fun j σ H6 _ z => SqL.of (z.1 _ _ hF5 (fun x z => by cases z))) ?_ ?_
        · rintro j y σ H6' H6 hj ⟨k6, y4, rfl, hc6, hw6⟩ ⟨rfl, hy⟩
          obtain ⟨lot, hlot, hdl⟩ := dpAll_item hda5 hy
          have htk : nl.take (j + 1) = nl.take j ++ [lot] := by rw [List.take_succ, hlot]; rfl
          have hnt : ¬ lot ∈ nl.take j := fun z => by
            obtain ⟨a, ha, ea⟩ := List.getElem_of_mem z
            rw [List.length_take] at ha
            rw [List.getElem_take] at ea
            obtain ⟨b1, b2⟩ := List.getElem?_eq_some_iff.mp hlot
            exact absurd (ea.trans b2.symm) (List.pairwise_iff_getElem.mp (List.nodup_iff_pairwise_ne.mp hnd) a j (by omega) b1 (by omega))
          have hnone : valV (wkv2 ++ (nl.take j).map fun l => (l, V.int (1 + (i : Int)))) lot = none := by
            rw [valV_new _ (fun l hl => hnn l (List.mem_of_mem_take hl)), if_neg hnt]
            exact hnn _ (List.mem_of_getElem? hlot)
          refine ⟨_, rfl, _, rfl, g, c.Ga, dx, _, _, rfl, k6 _ _ hg5 (fun x z => by cases z), T.cl_Ga, T.n_Ga_worth, (by unfold gameFs; kernel_rfl), _, rfl, wa, _, lot, rfl, hw6, lot_tkeep k6.tk hdl, hnone, (by rw [List.length_append, List.length_map, List.length_take, sizeLine_eq]; omega), fun H7 h7 hw7 => ?_⟩
          have k7 := kx_put hw6 h7
          refine ⟨k6.trans k7, _, rfl, hc6.to (h7 _ hcw) k7.tk, ?_⟩
          rw [htk, List.map_append, ← List.append_assoc]
          exact hw7
        · rintro σ H6 ⟨k6, y4, rfl, hc6, hw6⟩
          rw [hfsl, List.take_length] at hw6
          refine ⟨k5.trans k6, _, _, _, _, _, rfl, hc6, hw6, ?_, hfin⟩
          rw [List.length_append, List.length_map]
          omega
    · rintro σ H2 ⟨k2, wkv2, x2, x3, x4, x5, rfl, hc2, hw2, hwl2, hwv2⟩
      rw [hm'] at hwv2
      exact q H2 wkv2 k2 ⟨hc2, hkf, hC.nd, hC.all, fun p hp => by obtain ⟨a, h1, h2⟩ := hC.br p hp; exact ⟨a, h1, h2.kx k2⟩⟩ hw2 hwv2
end
end L2.Jw
set_option Elab.async false
set_option linter.all false
set_option maxRecDepth 100000
set_option maxHeartbeats 4000000
namespace L2.Jw
open PySem PySem.Spec PyProof.Rows
section
variable {P : Program} {w : World} {K : PySem.W.Frag} {mg : Str → Option Value} {base : Heap} {c : Cs}
/-! ### game.number(most) -/
def numF (wv : Lot → Option Int) (b : Brs) (bt : Bool) (m : Int) : Option Int := if bt = true then some 0 else if leastF wv b (m + 1) ≤ m then some (leastF wv b (m + 1)) else none
def numV : Option Int → V
  | none => .non
  | some n => .int n
def spNumber (P : Program) (w : World) (K : PySem.W.Frag) (c : Cs) : Sp := fun vs H Q _ => ∃ (g dx ja la ch wa op : Addr) (st bt : Bool) (wv : Lot → Option Int) (b : Brs) (m : Int), vs = [.ref g, .int m] ∧ H g = some (.ins c.Ga dx (gameFs ja la st ch wa bt op)) ∧ WorthAt P w K H wa wv ∧ BrAt K H op b ∧ BrsOk b ∧
  ∀ H', Same H H' → Q (numV (numF wv b bt m)) H'
abbrev s_Game_number : Stmt := inC 56 7
theorem c_Game_number : FnScope ["self", "most", "count"] ["self", "most"] (defScope s_Game_number) := ⟨rfl, rfl, rfl, by decide +kernel, rfl, by decide +kernel, by decide +kernel⟩
theorem b_Game_number : Bnd0 "number" "Game.number" s_Game_number ["self", "most"] := fun _ _ _ _ _ _ us hl => match us, hl with | [_, _], _ => rfl
theorem e_Game_number (T : Tx K mg c) : Me P w K mg base CX0 3 c.Ga "number" (spNumber P w K c) := by
  refine me_0 T.cl_Ga T.M_Ga_number c_Game_number b_Game_number (fun vs H Q E h => ?_) fun f cdv A outer s H vs Q E hr h => ?_
  · obtain ⟨g, dx, ja, la, ch, wa, op, st, bt, wv, b, m, rfl, _⟩ := h
    rfl
  · obtain ⟨g, dx, ja, la, ch, wa, op, st, bt, wv, b, m, rfl, hg, hw, hb, hbo, q⟩ := h
    refine ⟨_, (pss_cons (ps_if (pt_val (pe_fld (pv 0) rfl)) (pss_one (ps_ret pe_int)) pss_nil)
      (pss_cons (ps_set (i := 2) c_Game_number.nd rfl (Or.inl rfl) (pe_M (pv 0) (e_Game_least T) (hr.mono (by first | decide | omega)) pass0 (pa_cons (pe_fld (pv 0) rfl) (pa_cons (pe_op op_add (pv 1) pe_int) pa_nil))))
      (pss_one (ps_ret (pe_ifExp (pt_cmpR op_le (pv 2) (pv 1) (nomark _)) (pv 2) pe_non))))), ?_⟩
    refine ⟨_, rfl, g, c.Ga, dx, _, _, rfl, hg, T.cl_Ga, T.n_Ga_begins_told, (by unfold gameFs; kernel_rfl), bt, rfl, ?_⟩
    cases bt with
    | true =>
      refine iteT ?_
      exact q H (fun _ _ h => h)
    | false =>
      refine iteF ?_
      refine ⟨_, rfl, g, dx, _, rfl, hg, (by unfold gameFs; kernel_rfl), _, rfl, g, c.Ga, dx, _, _, rfl, hg, T.cl_Ga, T.n_Ga_opening, (by unfold gameFs; kernel_rfl), _, rfl, _, _, rfl, rfl, g, dx, op, ja, la, ch, wa, op, st, false, wv, b, m + 1, rfl, hg, hw, hb, hbo, fun H1 e1 => ?_⟩
      have q1 := q H1 e1
      unfold numF at q1
      rw [if_neg Bool.false_ne_true] at q1
      refine ⟨_, rfl, _, rfl, _, _, rfl, rfl, _, rfl, ?_⟩
      by_cases hle : leastF wv b (m + 1) ≤ m
      · rw [if_pos hle] at q1
        exact itD hle ⟨_, rfl, q1⟩
      · rw [if_neg hle] at q1
        exact itN hle q1
end
end L2.Jw
set_option Elab.async false
set_option linter.all false
set_option maxRecDepth 100000
set_option maxHeartbeats 4000000
namespace L2.Jw
open PySem PySem.Spec PyProof.Rows
section
variable {P : Program} {w : World} {K : PySem.W.Frag} {mg : Str → Option Value} {base : Heap} {c : Cs}
/-! ### game.tree(choices, pairs, told, last) -/
inductive GT where
  | kind (k : Int)
  | sq (t : Int) (cs : List (Int × GT))
inductive TreeAt (K : PySem.W.Frag) (H : Hp) : V → GT → Prop
  | kind {a : Addr} {k : Int} : SqT K H a [.str "kind", .int k] → TreeAt K H (.ref a) (.kind k)
  | sq {a d : Addr} {t : Int} {od : Obj} {kvs : List (Key × V)} {cs : List (Int × GT)} (f : Nat → V) : SqT K H a [.str "squeeze", .int t, .ref d] → H d = some (.frz od (.dK kvs)) → kvs.length = cs.length → (∀ i q, cs[i]? = some q → kvs[i]? = some (Sum.inl q.1, f i)) →
      (∀ i q, cs[i]? = some q → TreeAt K H (f i) q.2) → TreeAt K H (.ref a) (.sq t cs)
theorem TreeAt.keep {H H' : Hp} {v : V} {t : GT} (h : TreeAt K H v t) (k : TKeep K H H') (fk : FKeep H H') : TreeAt K H' v t := by
  induction h with
  | kind h => exact .kind (k _ _ h)
  | sq f h1 h2 h3 h4 _ ih => exact .sq f (k _ _ h1) (fk _ _ _ h2) h3 h4 ih
def treeF (W : Wd) (tb : Tb) (st : Bool) (wv : Lot → Option Int) : Nat → Bool → Brs → List Pr → Int → GT
  | 0, _, _, ps, _ => .kind (ps.headD (0, 0)).1
  | n + 1, told, b, ps, last => if told = true then .kind (ps.headD (0, 0)).1 else
    match b.find? (fun x => decide (1 + worstF wv x.2 13 = leastF wv b 13)) with
    | none => .kind 0
    | some x => .sq ((last + x.1) % W.N) (x.2.map fun q => (q.1, treeF W tb st wv n (decide (wv q.2 = some 0)) (childF W tb st q.2) q.2.2 ((last + x.1) % W.N)))
/-- what tree wants of the worth of the lots -/
structure WvOk (W : Wd) (tb : Tb) (st : Bool) (wv : Lot → Option Int) : Prop where
  lo : ∀ l k, wv l = some k → 0 ≤ k ∧ k ≤ 12
  rch : ∀ l k, wv l = some k → Reach W tb st l
  zero : ∀ l, wv l = some 0 → toldF W st l.2 = true
  pos : ∀ l k, wv l = some k → k ≠ 0 → leastF wv (childF W tb st l) 13 ≤ k
def spTree (P : Program) (w : World) (K : PySem.W.Frag) (c : Cs) (n : Nat) : Sp := fun vs H Q _ => ∃ (g dx l ja la ch wa op : Addr) (st bt told : Bool) (W : Wd) (tb : Tb) (wv : Lot → Option Int) (kvs : List (Lot × V)) (b : Brs) (v : V) (ps : List Pr) (last : Int), vs = [.ref g, .ref l, v, .bl told, .int last] ∧
  H g = some (.ins c.Ga dx (gameFs ja la st ch wa bt op)) ∧ JawsAt c H ja W ∧ WOk W ∧ TbWf tb ∧ ChAt P w K W tb st H ch kvs ∧ WorthAt P w K H wa wv ∧ WvOk W tb st wv ∧ BrAt K H l b ∧ BrsOk b ∧ Dp K H v (.tuple (ps.map prD)) ∧ ps ≠ [] ∧ (told = false → leastF wv b 13 ≤ n) ∧ n ≤ 12 ∧
  ∀ H' u, Same H H' → TreeAt K H' u (treeF W tb st wv n told b ps last) → Q u H'
abbrev s_Game_tree : Stmt := inC 56 6
theorem c_Game_tree : FnScope ["self", "choices", "pairs", "told", "last", "best", "turn", "lots", "here", "made", "width", "lot", "choice"] ["self", "choices", "pairs", "told", "last"] (defScope s_Game_tree) := ⟨rfl, rfl, rfl, by decide +kernel, rfl, by decide +kernel, by decide +kernel⟩
theorem b_Game_tree : Bnd0 "tree" "Game.tree" s_Game_tree ["self", "choices", "pairs", "told", "last"] := fun _ _ _ _ _ _ us hl => match us, hl with | [_, _, _, _, _], _ => rfl
def spT (P : Program) (w : World) (K : PySem.W.Frag) (c : Cs) : Nat → Sp
  | 0 => fun _ _ _ _ => False
  | n + 1 => spTree P w K c n
theorem worst_lo {wv : Lot → Option Int} (hlo : ∀ l k, wv l = some k → 0 ≤ k ∧ k ≤ 12) {lots : List (Int × Lot)} (hne : lots ≠ []) : 0 ≤ worstF wv lots 13 := by
  unfold worstF
  have h := maxL_mem (l := lots.map fun q => (wv q.2).getD 13) (fun z => hne (List.map_eq_nil_iff.mp z))
  obtain ⟨q, _, e⟩ := List.mem_map.mp h
  rw [← e]
  cases hq : wv q.2 with
  | none => show (0 : Int) ≤ 13; omega
  | some k => exact (hlo _ _ hq).1
theorem worst_each {wv : Lot → Option Int} {lots : List (Int × Lot)} {n : Int} (h : worstF wv lots 13 ≤ n) (hn : n ≤ 12) {q : Int × Lot} (hq : q ∈ lots) : ∃ k, wv q.2 = some k ∧ k ≤ n := by
  unfold worstF at h
  have h2 : (wv q.2).getD 13 ≤ maxL (lots.map fun q => (wv q.2).getD 13) := maxL_ge (List.mem_map.mpr ⟨q, hq, rfl⟩)
  cases hv : wv q.2 with
  | none =>
    rw [hv] at h2
    have h3 : (13 : Int) ≤ _ := h2
    omega
  | some k =>
    rw [hv] at h2
    have h3 : k ≤ _ := h2
    exact ⟨k, rfl, by omega⟩
theorem least_lo {wv : Lot → Option Int} (hlo : ∀ l k, wv l = some k → 0 ≤ k ∧ k ≤ 12) {b : Brs} (hb : BrsOk b) : 1 ≤ leastF wv b 13 := by
  unfold leastF
  split
  · omega
  · rename_i hne
    obtain ⟨x, hx, e⟩ := List.mem_map.mp (minL_mem (l := b.map fun x => 1 + worstF wv x.2 13) (fun z => hne (List.map_eq_nil_iff.mp z)))
    rw [← e]
    have := worst_lo hlo (hb.lots x hx).1
    omega
theorem best_find {wv : Lot → Option Int} {b : Brs} (h : leastF wv b 13 ≤ 12) : ∃ x, b.find? (fun x => decide (1 + worstF wv x.2 13 = leastF wv b 13)) = some x ∧ x ∈ b ∧ 1 + worstF wv x.2 13 = leastF wv b 13 := by
  have hne : b ≠ [] := fun z => by
    unfold leastF at h
    rw [if_pos z] at h
    omega
  have : ∃ x ∈ b, 1 + worstF wv x.2 13 = leastF wv b 13 := by
    obtain ⟨x, hx, e⟩ := List.mem_map.mp (minL_mem (l := b.map fun x => 1 + worstF wv x.2 13) (fun z => hne (List.map_eq_nil_iff.mp z)))
    refine ⟨x, hx, ?_⟩
    rw [e]
    unfold leastF
    rw [if_neg hne]
  obtain ⟨x, hx, e⟩ := this
  cases hf : b.find? (fun x => decide (1 + worstF wv x.2 13 = leastF wv b 13)) with
  | none => exact absurd (decide_eq_true e) (List.find?_eq_none.mp hf x hx)
  | some y =>
    have h5 : (fun x : Int × List (Int × Lot) => decide (1 + worstF wv x.2 13 = leastF wv b 13)) y = true := List.find?_some (p := fun x : Int × List (Int × Lot) => decide (1 + worstF wv x.2 13 = leastF wv b 13)) hf
    exact ⟨y, rfl, List.mem_of_find?_eq_some hf, of_decide_eq_true h5⟩
theorem find_idx {α : Type} {p : α → Bool} {l : List α} {x : α} (h : l.find? p = some x) : ∃ i L, l[i]? = some x ∧ (List.range l.length).filterMap (fun i => (l[i]?).bind fun y => if p y = true then some i else none) = i :: L := by
  induction l with
  | nil => cases h
  | cons y l ih =>
    have hr : ∀ (f : Nat → Option Nat), (List.range (y :: l).length).filterMap f = (f 0).toList ++ (List.range l.length).filterMap (fun i => f (i + 1)) := fun f => by
      rw [List.length_cons, List.range_succ_eq_map, List.filterMap_cons]
      rw [List.filterMap_map]
      cases f 0 <;> rfl
    rw [hr]
    by_cases hy : p y = true
    · rw [List.find?_cons_of_pos hy] at h
      cases h
      refine ⟨0, (List.range l.length).filterMap (fun i => ((x :: l)[i + 1]?).bind fun y => if p y = true then some (i + 1) else none), rfl, ?_⟩
      show (if p x = true then some 0 else none).toList ++ _ = _
      rw [if_pos hy]
      rfl
    · rw [List.find?_cons_of_neg hy] at h
      obtain ⟨i, L, h1, h2⟩ := ih h
      refine ⟨i + 1, L.map (· + 1), h1, ?_⟩
      have h0 : (((y :: l)[0]?).bind fun y => if p y = true then some 0 else none) = (none : Option Nat) := by
        show (if p y = true then some 0 else none) = none
        rw [if_neg hy]
      rw [h0]
      show (List.range l.length).filterMap (fun i => (l[i]?).bind fun y => if p y = true then some (i + 1) else none) = _
      have : (fun i => (l[i]?).bind fun y => if p y = true then some (i + 1) else none) = fun i => ((l[i]?).bind fun y => if p y = true then some i else none).map (· + 1) := by
        funext i
        cases l[i]? with
        | none => rfl
        | some z =>
          show (if p z = true then some (i + 1) else none) = (if p z = true then some i else none).map (· + 1)
          split <;> rfl
      rw [this, ← List.map_filterMap, h2]
      rfl
theorem ChAt.same {W : Wd} {tb : Tb} {st : Bool} {H H' : Hp} {ch : Addr} {kvs : List (Lot × V)} (h : ChAt P w K W tb st H ch kvs) (e : Same H H') : ChAt P w K W tb st H' ch kvs :=
  ⟨h.d.same e, h.few, h.nd, h.all, fun p hp => let ⟨a, h1, h2⟩ := h.br p hp; ⟨a, h1, h2.same e⟩⟩
theorem ch_get {W : Wd} {tb : Tb} {st : Bool} {H : Hp} {ch : Addr} {kvs : List (Lot × V)} {l : Lot} (h : ChAt P w K W tb st H ch kvs) (hr : Reach W tb st l) : ∃ a, valV kvs l = some (.ref a) ∧ BrAt K H a (childF W tb st l) := by
  obtain ⟨v, hv⟩ := Option.isSome_iff_exists.mp (val_keys.mpr ((h.all l).mpr hr))
  have hv2 := hv
  unfold valV at hv2
  obtain ⟨kv, hkv, e⟩ := Option.map_eq_some_iff.mp hv2
  have h1 := List.find?_some (p := fun kv : Lot × V => decide (kv.1 = l)) hkv
  have h2 : kv.1 = l := of_decide_eq_true h1
  obtain ⟨a, h3, h4⟩ := h.br kv (List.mem_of_find?_eq_some hkv)
  refine ⟨a, by rw [hv, ← e, h3], ?_⟩
  rw [← h2]
  exact h4
theorem e_Game_tree (T : Tx K mg c) : ∀ n : Nat, Me P w K mg base CX0 (3 + n) c.Ga "tree" (spT P w K c n) := by
  intro n
  induction n with
  | zero => exact me_0 (k := 2) T.cl_Ga T.M_Ga_tree c_Game_tree b_Game_tree (fun vs H Q E h => h.elim) fun f cdv A outer s H vs Q E hr h => h.elim
  | succ n ih' =>
    have ih : Tx K mg c → Me P w K mg base CX0 (3 + n) c.Ga "tree" (spT P w K c n) := fun _ => ih'
    refine me_0 (k := 3 + n) T.cl_Ga T.M_Ga_tree c_Game_tree b_Game_tree (fun vs H Q E h => ?_) fun f cdv A outer s H vs Q E hr h => ?_
    · obtain ⟨g, dx, l, ja, la, ch, wa, op, st, bt, told, W, tb, wv, kvs, b, v, ps, last, rfl, _⟩ := h
      rfl
    · obtain ⟨g, dx, l, ja, la, ch, wa, op, st, bt, told, W, tb, wv, kvs, b, v, ps, last, rfl, hg, hJ, O, Tw, hC, hw, hv, hb, hbo, hps, hne, hlst, hn, q⟩ := h
      refine ⟨_, (pss_cons (ps_if (pt_val (pv 3)) (pss_one (ps_ret (pe_tup (pa_cons pe_str (pa_cons (pe_ix (r := rIxT K) ix_tup (pe_ix (r := rIxT K) ix_tup (pv 2) pe_int (fun _ _ => rfl)) pe_int (fun _ _ => rfl)) pa_nil))))) pss_nil)
      (pss_cons (ps_set (i := 5) c_Game_tree.nd rfl (Or.inr rfl) (pe_M (pv 0) (e_Game_least T) (hr.mono (by first | decide | omega)) pass0 (pa_cons (pv 1) (pa_cons (pe_op op_add (pe_gI rfl T.MOST_SQUEEZES) pe_int) pa_nil))))
      (pss_cons (ps_asg (pe_ix (r := rIxL K) ix_list (pe_lc (own := [("choice", 12)]) (g := (gName 12)) (tt := tTest (tOp rEq (tOp (rI0 fun i j => V.int (i + j)) (tC (.int 1)) (tM c.Ga "worst" (spWorst P w K c) E0 (tVar 0) (tCons (tOp (rIxT K) (tVar 12) (tC (.int 1))) (tCons (tOp (rI0 fun i j => V.int (i + j)) (tC (.int 12)) (tC (.int 1))) tNil)))) (tVar 5))) (by rfl) c_Game_tree.nd (pi_list (pv 1)) (blkOk_by (own := [("choice", 12)]) (N := ["self", "choices", "pairs", "told", "last", "best", "turn", "lots", "here", "made", "width", "lot", "choice"]) (sc := defScope s_Game_tree) (by decide +kernel)) (fun _ _ _ _ _ => (pg_name (i := 12) c_Game_tree.nd rfl (Or.inl rfl))) (fun _ _ _ _ _ => (pts_one (pt_cmpR op_eq (pe_op op_add pe_int (pe_M (pv 0) (e_Game_worst (P := P) (w := w) (base := base) T) (hr.mono (by first | decide | omega)) pass0 (pa_cons (pe_ix (r := rIxT K) ix_tup (pv 12) pe_int (fun _ _ => rfl)) (pa_cons (pe_op op_add (pe_gI rfl T.MOST_SQUEEZES) pe_int) pa_nil)))) (pv 5) (nomark _)))) (fun _ _ _ _ _ => (pv 12))) pe_int (fun _ _ => rfl)) (pg_tup rfl (pgs_cons (pg_name (i := 6) c_Game_tree.nd rfl (Or.inl rfl)) (pgs_cons (pg_name (i := 7) c_Game_tree.nd rfl (Or.inl rfl)) pgs_nil))))
      (pss_cons (ps_set (i := 8) c_Game_tree.nd rfl (Or.inl rfl) (pe_op op_mod (pe_op op_add (pv 4) (pv 6)) (pe_fld (pe_fld (pv 0) rfl) rfl)))
      (pss_cons (ps_set (i := 9) c_Game_tree.nd rfl (Or.inl rfl) pe_dnewK)
      (pss_cons (ps_for PassesOwn.never rfl (pi_items (pv 7)) (pg_tup rfl (pgs_cons (pg_name (i := 10) c_Game_tree.nd rfl (Or.inl rfl)) (pgs_cons (pg_name (i := 11) c_Game_tree.nd rfl (Or.inl rfl)) pgs_nil)))
      (pss_one (ps_dput (hu_of hr) (pv 9) (pv 10) (pe_M (pv 0) (ih T) (hr.mono (by first | decide | omega)) pass0 (pa_cons (pe_ix (ix_nget hr.units) (pe_fld (pv 0) rfl) (pv 11) (fun _ _ => rfl)) (pa_cons (pe_ix (r := rIxT K) ix_tup (pv 11) pe_int (fun _ _ => rfl)) (pa_cons (pe_cmpR op_eq (pe_ix (ix_nget hr.units) (pe_fld (pv 0) rfl) (pv 11) (fun _ _ => rfl)) pe_int (nomark _)) (pa_cons (pv 8) pa_nil))))) rfl)))
      (pss_one (ps_ret (pe_tup (pa_cons pe_str (pa_cons (pv 8) (pa_cons (pe_freeze (pv 9)) pa_nil)))))))))))), ?_⟩
      obtain ⟨tp, tps, rfl, htp, htd⟩ := dp_tup hps
      refine ⟨_, rfl, told, rfl, ?_⟩
      cases told with
      | true =>
        refine iteT ?_
        obtain ⟨p, ps', rfl⟩ := List.exists_cons_of_ne_nil hne
        cases htd with
        | @cons v0 _ vr _ h1 h2 =>
          obtain ⟨pa, rfl, hpa⟩ := dp_pr h1
          refine ⟨_, rfl, tp, _, _, _, rfl, rfl, htp, atI0, pa, _, _, _, rfl, rfl, hpa, atI0, (by show 2 ≤ sizeLine; decide), fun u hu => ?_⟩
          refine q _ _ (same_new hu) ?_
          cases n with
          | zero => exact .kind (SqT.of upd_same)
          | succ m =>
            unfold treeF
            rw [if_pos rfl]
            exact .kind (SqT.of upd_same)
      | false =>
        refine iteF ?_
        have hle := hlst rfl
        have h1le := least_lo hv.lo hbo
        obtain ⟨x, hfx, hxb, hxe⟩ := best_find (wv := wv) (b := b) (by omega)
        match n, ih', ih, hr, hle, q with
        | 0, _, _, _, hle, _ => exact absurd h1le (by have : leastF wv b 13 ≤ 0 := hle; omega)
        | m + 1, ih', ih, hr, hle, q =>
          obtain ⟨vs, hl, hp⟩ := hb.ob
          have hvl : vs.length = b.length := (Paired.len hp).symm
          have hb7 := hbo.len
          refine ⟨_, rfl, g, dx, _, rfl, hg, (by unfold gameFs; kernel_rfl), _, rfl, _, _, rfl, rfl, g, dx, l, ja, la, ch, wa, op, st, bt, wv, b, 13, rfl, hg, hw, hb, hbo, fun H1 e1 => ?_⟩
          refine ⟨_, rfl, l, rfl, ⟨vs, SqL.of (e1 _ _ hl)⟩, fun D hD => ?_⟩
          refine lc_fm walk_list (fun i => (b[i]?).bind fun y => if decide (1 + worstF wv y.2 13 = leastF wv b 13) = true then some i else none) (fun i y H => vs[i]? = some y) hD (fun H e => SqL.of (e _ _ (e1 _ _ hl))) (by omega) (fun _ _ _ _ _ _ _ h => h) ?_ ?_
          · rintro i y H2' H2 Cy Cn hi e2 ⟨rfl, hx⟩ hC1 hC2
            obtain ⟨q1, hq1, qa, d, od, kvd, rfl, hsq, hd, hlx⟩ := paired_get hp hx
            obtain ⟨o1, o2⟩ := hbo.lots q1 (List.mem_of_getElem? hq1)
            have e12 := e1.trans e2
            refine ⟨rfl, ?_⟩
            refine ⟨_, rfl, g, dx, _, rfl, e12 _ _ hg, (by unfold gameFs; kernel_rfl), _, rfl, qa, _, _, _, rfl, rfl, same_sqT e12 hsq, atI1, _, _, rfl, rfl, g, dx, d, ja, la, ch, wa, op, st, bt, wv, od, kvd, q1.2, 13, rfl, e12 _ _ hg, hw.same e12, e12 _ _ hd, hlx.keep (tkeep_same e12), o1, o2, fun H3 e3 => ?_⟩
            refine ⟨_, _, rfl, rfl, _, rfl, rfl, _, rfl, ?_⟩
            by_cases heq : 1 + worstF wv q1.2 13 = leastF wv b 13
            · refine itD (congrArg V.int heq) ⟨_, rfl, hC1 i _ _ ?_ e3 hx⟩
              rw [hq1]
              show (if decide (1 + worstF wv q1.2 13 = leastF wv b 13) = true then some i else none) = _
              rw [if_pos (decide_eq_true heq)]
            · refine itN (fun z => heq (V.int.inj z)) (hC2 ?_ _ e3)
              rw [hq1]
              show (if decide (1 + worstF wv q1.2 13 = leastF wv b 13) = true then some i else none) = _
              rw [if_neg (fun z => heq (of_decide_eq_true z))]
          · intro H2 acc e2 hacc hpp
            obtain ⟨i0, L, hi0, hL0⟩ := find_idx hfx
            rw [hvl, hL0] at hpp
            obtain ⟨y0, accr, rfl, hy0⟩ : ∃ y accr, acc = y :: accr ∧ vs[i0]? = some y := by
              cases hpp with
              | @cons _ y _ ys h1 h2 => exact ⟨y, ys, rfl, h1⟩
            obtain ⟨q1, hq1, qa, d, od, kvd, rfl, hsq, hd, hlx⟩ := paired_get hp hy0
            rw [hi0] at hq1
            cases hq1
            have e12 := e1.trans e2
            have hx12 : worstF wv x.2 13 ≤ m := by
              have : leastF wv b 13 ≤ ((m + 1 : Nat) : Int) := hle
              omega
            obtain ⟨o1, o2⟩ := hbo.lots x hxb
            have hxnd := hbo.nd x hxb
            have hkl : kvd.length = x.2.length := (Paired.len hlx).symm
            obtain ⟨dxj, l1, g1, s1, hj1, _⟩ := (hJ.same e12).ob
            have hN := O.n1
            refine ⟨D, _, 0, _, rfl, rfl, SqL.of hacc, atI0, qa, _, rfl, same_sqT e12 hsq, rfl, _, _, rfl, _, _, rfl, rfl, ?_⟩
            refine ⟨_, rfl, _, rfl, _, _, rfl, rfl, _, rfl, g, c.Ga, dx, _, _, rfl, e12 _ _ hg, T.cl_Ga, T.n_Ga_jaws, (by unfold gameFs; kernel_rfl), ja, c.Ja, dxj, _, _, rfl, hj1, T.cl_Ja, T.n_Ja_ring, jaws_ring, _, _, rfl, rfl, by omega, ?_⟩
            refine fun D2 hD2 => ?_
            have hd2 := e12 _ _ hd
            have eD2 := same_new (o := .dK []) hD2
            refine ⟨_, rfl, d, od, kvd, rfl, eD2 _ _ hd2, ?_⟩
            refine for_it walk_items (fun j σ H3 => Same H2 H3 ∧ ∃ (y10 y11 : Option V) (kv2 : List (Key × V)), σ = [some (.ref g), some (.ref l), some (.ref tp), some (.bl false), some (.int last), some (.int (leastF wv b 13)), some (.int x.1), some (.ref d), some (.int ((last + x.1) % W.N)), some (.ref D2), y10, y11, none] ∧ H3 D2 = some (.dK kv2) ∧
                Paired (fun (q : Int × GT) (kv : Key × V) => kv.1 = Sum.inl q.1 ∧ TreeAt K H3 kv.2 q.2) ((x.2.take j).map fun q => (q.1, treeF W tb st wv m (decide (wv q.2 = some 0)) (childF W tb st q.2) q.2.2 ((last + x.1) % W.N))) kv2)
              ⟨eD2, none, none, [], rfl, upd_same, .nil⟩ (fun j σ H3 _ z => z.1 _ _ hd2) ?_ ?_
            · rintro j y σ H3 H3' hj ⟨e3, y10, y11, kv2, rfl, hD3, hpk⟩ ⟨Tp, ya, yb, rfl, hTp, rfl, hya, hyb⟩
              have hkj : kvd[j]? = some kvd[j] := List.getElem?_eq_getElem hj
              obtain ⟨q2, hq2, hk1, hdp⟩ := paired_get hlx hkj
              have hya' : kV kvd[j].1 = ya := by
                have h : (kvd[j]?).map (fun kv => kV kv.1) = some ya := hya
                rw [hkj] at h
                exact Option.some.inj h
              have hyb' : kvd[j].2 = yb := by
                have h : (kvd[j]?).map Prod.snd = some yb := hyb
                rw [hkj] at h
                exact Option.some.inj h
              subst hya' hyb'
              rw [hk1]
              obtain ⟨tl, tlp, tls, etl, ht1, ht2, ht3⟩ := dp_lot hdp
              rw [etl] at hdp ⊢
              have eT := same_new (o := .tup [kV (Sum.inl q2.1), .ref tl]) hTp
              have e34 : Same H (upd H3 Tp (.tup [kV (Sum.inl q2.1), .ref tl])) := (e12.trans e3).trans eT
              obtain ⟨k, hwk, hkm⟩ := worst_each hx12 (by omega) (List.mem_of_getElem? hq2)
              have hrq := hv.rch _ _ hwk
              obtain ⟨ca, hca1, hca2⟩ := ch_get (hC.same e34) hrq
              have hok := reach_ok O Tw hrq
              have htd' : decide (V.int k = V.int 0) = decide (wv q2.2 = some 0) := by
                rw [hwk]
                by_cases h0 : k = 0
                · rw [decide_eq_true (by rw [h0]), decide_eq_true (by rw [h0])]
                · rw [decide_eq_false (fun z => h0 (V.int.inj z)), decide_eq_false (fun z => h0 (Option.some.inj z))]
              obtain ⟨wkv, hwn, hwf⟩ := (hw.same e34).ob
              have hg4 := e34 _ _ hg
              have hdp4 := dp_same e34 _ _ hdp
              refine ⟨Tp, _, rfl, SqT.of upd_same, rfl, _, _, rfl, _, _, rfl, rfl, ?_⟩
              refine ⟨_, rfl, g, dx, _, rfl, hg4, (by unfold gameFs; kernel_rfl), _, rfl, g, c.Ga, dx, _, _, rfl, hg4, T.cl_Ga, T.n_Ga_choices, (by unfold gameFs; kernel_rfl), _, rfl, ch, kvs, q2.2, .ref ca, rfl, (hC.same e34).d.rd, hdp4, hca1, _, rfl, tl, _, _, _, rfl, rfl, same_sqT e34 ht1, atI1,
                _, rfl, g, c.Ga, dx, _, _, rfl, hg4, T.cl_Ga, T.n_Ga_worth, (by unfold gameFs; kernel_rfl), _, rfl, wa, wkv, q2.2, .int k, rfl, hwn, hdp4, (by rw [hwf, hwk]; rfl), rfl, _, rfl, ?_⟩
              refine ⟨g, dx, ca, ja, la, ch, wa, op, st, bt, decide (V.int k = V.int 0), W, tb, wv, kvs, childF W tb st q2.2, .ref tlp, q2.2.2, (last + x.1) % W.N, rfl, hg4, hJ.same e34, O, Tw, hC.same e34, hw.same e34, hv, hca2, child_ok Tw hok, dp_same e34 _ _ (.tup ht2 ht3), hok.ne, fun hf => ?_, by omega, fun H5 u e5 htr => ?_⟩
              · have hk0 : k ≠ 0 := fun z => by rw [z, decide_eq_true rfl] at hf; cases hf
                have := hv.pos _ _ hwk hk0
                omega
              · rw [htd'] at htr
                have e35 := eT.trans e5
                have hD5 := e35 _ _ hD3
                have htk : x.2.take (j + 1) = x.2.take j ++ [q2] := by rw [List.take_succ, hq2]; rfl
                have hkl2 : kv2.length ≤ j := by
                  have := Paired.len hpk
                  rw [List.length_map, List.length_take] at this
                  omega
                have hnew : valV kv2 (Sum.inl q2.1) = none := by
                  cases hz : valV kv2 (Sum.inl q2.1) with
                  | none => rfl
                  | some z =>
                    exfalso
                    obtain ⟨kv', hkv', ek⟩ := List.mem_map.mp (valV_in hz)
                    obtain ⟨i2, hi2, em⟩ := List.getElem_of_mem hkv'
                    obtain ⟨q3, hq3, hq3k, _⟩ := paired_get hpk (i := i2) (y := kv') (by rw [List.getElem?_eq_getElem hi2, em])
                    rw [List.getElem?_map] at hq3
                    cases hq4 : (x.2.take j)[i2]? with
                    | none => rw [hq4] at hq3; cases hq3
                    | some q4 =>
                      rw [hq4] at hq3
                      cases hq3
                      have hij : i2 < j := by omega
                      rw [List.getElem?_take_of_lt hij] at hq4
                      have hkk : q4.1 = q2.1 := Sum.inl.inj (hq3k.symm.trans ek)
                      obtain ⟨b1, c1⟩ := List.getElem?_eq_some_iff.mp hq4
                      obtain ⟨b2, c2⟩ := List.getElem?_eq_some_iff.mp hq2
                      refine absurd ?_ (List.pairwise_iff_getElem.mp (List.nodup_iff_pairwise_ne.mp hxnd) i2 j (by rw [List.length_map]; exact b1) (by rw [List.length_map]; exact b2) hij)
                      rw [List.getElem_map, List.getElem_map, c1, c2]
                      exact hkk
                have k6 : TKeep K H5 (upd H5 D2 (.dK (putK kv2 (Sum.inl q2.1) u))) := dK_tkeep hD5
                have f6 : FKeep H5 (upd H5 D2 (.dK (putK kv2 (Sum.inl q2.1) u))) := fkeep_upd hD5 (fun _ _ z => by cases z)
                rw [putK_new _ hnew] at k6 f6
                refine ⟨_, rfl, _, rfl, D2, _, rfl, .inl ⟨kv2, Sum.inl q2.1, hD5, rfl, small1000 (by omega), rfl⟩, same_updO (e3.trans e35) hD2, _, _, _, rfl, upd_same, ?_⟩
                rw [putK_new _ hnew, htk, List.map_append]
                refine paired_snoc (Paired.mapP hpk fun _ _ ⟨z1, z2⟩ => ⟨z1, (z2.keep (tkeep_same e35) (Same.fkeep e35)).keep k6 f6⟩) ⟨rfl, htr.keep k6 f6⟩
            · rintro σ H3 ⟨e3, y10, y11, kv2, rfl, hD3, hpk⟩
              rw [hkl, List.take_length] at hpk
              refine ⟨_, rfl, _, rfl, D2, _, rfl, hD3, True.intro, fun od2 => ⟨(by show 3 ≤ sizeLine; decide), fun u hu => ?_⟩⟩
              have e4 : Same H2 (upd H3 D2 (.frz od2 (.dK kv2))) := same_updO e3 hD2
              have k4 : TKeep K H3 (upd H3 D2 (.frz od2 (.dK kv2))) := dK_tkeep hD3
              have f4 : FKeep H3 (upd H3 D2 (.frz od2 (.dK kv2))) := fkeep_upd hD3 (fun _ _ z => by cases z)
              have e5 := same_new (o := .tup [.str "squeeze", .int ((last + x.1) % W.N), .ref D2]) hu
              refine q _ _ ((e12.trans e4).trans e5) ?_
              unfold treeF
              rw [if_neg Bool.false_ne_true, hfx]
              have hklen := Paired.len hpk
              refine .sq (fun i => match kv2[i]? with | some kv => kv.2 | none => .non) (SqT.of upd_same) (e5 _ _ upd_same) hklen.symm (fun i q3 hq3 => ?_) (fun i q3 hq3 => ?_)
              · obtain ⟨kv, h1, h2, h3⟩ := paired_get' hpk hq3
                rw [h1, ← h2]
              · obtain ⟨kv, h1, h2, h3⟩ := paired_get' hpk hq3
                show TreeAt K _ (match kv2[i]? with | some kv => kv.2 | none => .non) q3.2
                rw [h1]
                exact (h3.keep k4 f4).keep (tkeep_same e5) (Same.fkeep e5)
end
end L2.Jw
set_option Elab.async false
set_option linter.all false
set_option maxRecDepth 100000
set_option maxHeartbeats 4000000
namespace L2.Jw
open PySem PySem.Spec PyProof.Rows
section
variable {P : Program} {w : World} {K : PySem.W.Frag} {mg : Str → Option Value} {base : Heap} {c : Cs}
/-! ### Game(parts, let, most, settled) -/
def KP (p : Addr) (H H' : Hp) : Prop := ∀ b u, b ≠ p → H b = some u → (∀ x, u ≠ .ext x) → H' b = some u
theorem KP.same {p : Addr} {H H1 H2 : Hp} (a : KP p H H1) (e : Same H1 H2) : KP p H H2 := fun b u n h x => e _ _ (a b u n h x)
theorem KP.kx {p : Addr} {H H1 H2 : Hp} (a : KP p H H1) (e : KX H1 H2) : KP p H H2 := fun b u n h x => e _ _ (a b u n h x) x
theorem KP.up {p : Addr} {H H1 : Hp} (a : KP p H H1) (o : HO) : KP p H (upd H1 p o) := fun b u n h x => by
  rw [upd_ne n]
  exact a b u n h x
theorem KP.tk {p C dx : Addr} {H H' : Hp} {fs : List (Str × V)} (a : KP p H H') (hp : H p = some (.ins C dx fs)) : TKeep K H H' := fun b xs h => by
  rcases h with (h | ⟨o, h⟩) | h
  · exact .inl (.inl (a _ _ (fun z => by rw [z, hp] at h; cases h) h (fun x z => by cases z)))
  · exact .inl (.inr ⟨o, a _ _ (fun z => by rw [z, hp] at h; cases h) h (fun x z => by cases z)⟩)
  · exact .inr h
theorem KP.lst {p C dx l : Addr} {H H' : Hp} {fs : List (Str × V)} {xs : List V} (a : KP p H H') (hp : H p = some (.ins C dx fs)) (h : H l = some (.lst xs)) : H' l = some (.lst xs) := a _ _ (fun z => by rw [z, hp] at h; cases h) h (fun x z => by cases z)
theorem KP.frz {p C dx l : Addr} {H H' : Hp} {fs : List (Str × V)} {o : Obj} {u : HO} (a : KP p H H') (hp : H p = some (.ins C dx fs)) (h : H l = some (.frz o u)) : H' l = some (.frz o u) := a _ _ (fun z => by rw [z, hp] at h; cases h) h (fun x z => by cases z)
theorem LsLs.kp {p C dx l : Addr} {H H' : Hp} {fs : List (Str × V)} {xss : List (List Int)} (h : LsLs H l xss) (e : KP p H H') (hp : H p = some (.ins C dx fs)) : LsLs H' l xss := by
  obtain ⟨vs, h1, h2⟩ := h
  exact ⟨vs, e.lst hp h1, Paired.mapP h2 fun _ _ ⟨q, a, b⟩ => ⟨q, a, e.lst hp b⟩⟩
theorem JawsAt.kp {p C dx a : Addr} {H H' : Hp} {W : Wd} (h : JawsAt c H a W) (e : KP p H H') (hp : H p = some (.ins C dx [])) : JawsAt c H' a W := by
  obtain ⟨dj, l, g, s, h1, h2, h3, h4⟩ := h.ob
  refine ⟨dj, l, g, s, e _ _ (fun z => ?_) h1 (fun x z => by cases z), h2.kp e hp, h3.kp e hp, e.lst hp h4⟩
  rw [z, hp] at h1
  have := (HO.ins.inj (Option.some.inj h1)).2.2
  unfold jawsFs at this
  cases this
theorem LetAt.kp {p C dx a : Addr} {H H' : Hp} {N : Int} {tb : Tb} (h : LetAt K c H a N tb) (e : KP p H H') (hp : H p = some (.ins C dx [])) : LetAt K c H' a N tb := by
  obtain ⟨dl, t, od, kvs, h1, h2, h3⟩ := h.ob
  refine ⟨dl, t, od, kvs, e _ _ (fun z => ?_) h1 (fun x z => by cases z), e.frz hp h2, Paired.mapP h3 fun _ _ ⟨a, l, b, xs, h1, h2⟩ => ⟨a, l, b, xs, e.lst hp h1, rules_tkeep (e.tk hp) h2⟩⟩
  rw [z, hp] at h1
  have := (HO.ins.inj (Option.some.inj h1)).2.2
  unfold letFs at this
  cases this
/-- a game that is ready -/
structure GameAt (P : Program) (w : World) (K : PySem.W.Frag) (c : Cs) (H : Hp) (p : Addr) (W : Wd) (tb : Tb) (st : Bool) (m : Nat) : Prop where
  ob : ∃ (dx ja la ch wa op : Addr) (kvs : List (Lot × V)), H p = some (.ins c.Ga dx (gameFs ja la st ch wa (toldF W st (allP W)) op)) ∧ JawsAt c H ja W ∧ ChAt P w K W tb st H ch kvs ∧ WorthAt P w K H wa (weighF W tb st (kvs.map Prod.fst) m) ∧ BrAt K H op (rootF W tb)
def spGaI (P : Program) (w : World) (K : PySem.W.Frag) (c : Cs) : Sp := fun vs H Q E => ∃ (p dx pa la : Addr) (N : Int) (pds : List PartD) (tb : Tb) (m : Nat) (st : Bool), vs = [.ref p, .ref pa, .ref la, .int (m : Int), .bl st] ∧ m ≤ 12 ∧ H p = some (.ins c.Ga dx []) ∧ PartsAt K c H pa N pds ∧ 1 ≤ pds.length ∧ pds.length ≤ 3 ∧ (∀ d ∈ pds, PartOk N d) ∧
  LetAt K c H la N tb ∧ tb.length ≤ 5 ∧ (∀ q ∈ tb, q.2.length ≤ 7) ∧ TbWf tb ∧ WOk (wdF N pds) ∧ (¬ Few (wdF N pds) tb st → ∀ d H', KP p H H' → E (.ref c.TM) (some d) H') ∧ ∀ H', KP p H H' → GameAt P w K c H' p (wdF N pds) tb st m → Q .non H'
abbrev s_Game___init__ : Stmt := inC 56 0
theorem c_Game___init__ : FnScope ["self", "parts", "let", "most", "settled"] ["self", "parts", "let", "most", "settled"] (defScope s_Game___init__) := ⟨rfl, rfl, rfl, by decide +kernel, rfl, by decide +kernel, by decide +kernel⟩
theorem b_Game___init__ : Bnd0 "__init__" "Game.__init__" s_Game___init__ ["self", "parts", "let", "most", "settled"] := fun _ _ _ _ _ _ us hl => match us, hl with | [_, _, _, _, _], _ => rfl
theorem mk_X {C : Addr} {x q : Str} {st : Stmt} {N ps : List Str} {CX : CXT} {k : Nat} {sp : Sp} (hm : mg x = some (.ref C)) (D : MkAt K C q st []) (S : FnScope N ps (defScope st)) (hb : Bnd0 "__init__" q st ps) (len : ∀ vs H Q E, sp vs H Q E → vs.length = ps.length)
    (hbody : ∀ (f : Addr) (cdv : Value) (A : Around) (outer : List Env) (s : Shared) (H : Hp) (vs : List V) (Q : VK) (E : XK), Room k (A.deeper (envOfC q (defScope st) s.heap.objs.size f cdv)) → sp vs H Q E →
      ∃ t, PSs (cxOf CX P w K mg base N q (defScope st) f cdv A outer s H E) (defBody st) t ∧ t { nx := fun _ H' => Q .non H', rt := Q } (start N vs) H) : Mkr P w K mg base CX (k + 1) x C sp := by
  obtain ⟨f, fd, e, F⟩ := D
  exact ⟨f, hm, e, fnr_X F S hb len (hbody f)⟩
theorem m_Game (T : Tx K mg c) : Mkr P w K mg base (CX P w) 8 "Game" c.Ga (spGaI P w K c) := by
  refine mk_X T.mg_Ga T.I_Ga c_Game___init__ b_Game___init__ (fun vs H Q E h => ?_) fun f cdv A outer s H vs Q E hr h => ?_
  · obtain ⟨p, dx, pa, la, N, pds, tb, m, st, rfl, _⟩ := h
    rfl
  · obtain ⟨p, dx, pa, la, N, pds, tb, m, st, rfl, hm, hp, hP, l1, l3, hok, hL, ht5, ht7, Tw, O, hX, q⟩ := h
    refine ⟨_, (pss_cons (ps_fld (pv 0) (pe_D (d_checked_jaws T) (hr.mono (by first | decide | omega)) rfl pass0 (pa_cons (pv 1) (pa_cons (pv 2) pa_nil))) rfl)
      (pss_cons (ps_if (PW.pt (pw_or (pt_not (pt_val (pe_D (d_is_integer T) (hr.mono (by first | decide | omega)) rfl pass0 (pa_cons (pv 3) pa_nil)))) (pw_or1 (pt_not (pt_chain op_le op_le pe_int (pv 3) (pe_gI rfl T.MOST_SQUEEZES)))))) (pss_one ps_never) pss_nil)
      (pss_cons (ps_fld (pv 0) (pv 2) rfl)
      (pss_cons (ps_fld (pv 0) (pv 4) rfl)
      (pss_cons (ps_fld (pv 0) pe_nnew rfl)
      (pss_cons (ps_fld (pv 0) pe_nnew rfl)
      (pss_cons (ps_fld (pv 0) (pe_M (pe_fld (pv 0) rfl) (e_Jaws_is_told T) (hr.mono (by first | decide | omega)) pass0 (pa_cons (pe_M0 (pe_fld (pv 0) rfl) (e_Jaws_all_pairs T) (hr.mono (by first | decide | omega)) pass0) (pa_cons (pv 4) pa_nil))) rfl)
      (pss_cons (ps_fld (pv 0) (pe_M (pv 0) (e_Game_branches T) (hr.mono (by first | decide | omega)) pass0 (pa_cons pe_str (pa_cons (pe_M0 (pe_fld (pv 0) rfl) (e_Jaws_all_pairs T) (hr.mono (by first | decide | omega)) pass0) pa_nil))) rfl)
      (pss_cons (ps_expr (pe_M0 (pv 0) (e_Game_collect T) (hr.mono (by first | decide | omega)) (passes_call (takes_of rfl rfl rfl rfl) (fun _ _ _ _ h => h))))
      (pss_one (ps_expr (pe_M (pv 0) (e_Game_weigh T) (hr.mono (by first | decide | omega)) pass0 (pa_cons (pv 3) pa_nil))))))))))))), ?_⟩
    refine ⟨_, rfl, _, rfl, pa, la, N, pds, tb, rfl, hP, l1, l3, hok, hL, ht5, ht7, fun ja H1 e1 hJ => ?_⟩
    have hp1 := e1 _ _ hp
    have hL1 := hL.same e1
    have K1 : KP p H H1 := fun b u n h x => e1 _ _ h
    refine ⟨_, rfl, p, c.Ga, dx, _, rfl, hp1, T.cl_Ga, T.n_Ga_jaws, (by show 0 < 1000; decide), ?_⟩
    refine ⟨_, rfl, (m : Int), rfl, true, rfl, iteF ?_⟩
    refine ⟨_, rfl, _, _, rfl, rfl, true, blT (by omega), iteT ?_⟩
    refine ⟨_, _, rfl, rfl, _, rfl, inD (by omega) ?_⟩
    refine ⟨_, rfl, _, rfl, p, c.Ga, dx, _, rfl, upd_same, T.cl_Ga, T.n_Ga_let, (by show 1 < 1000; decide), ?_⟩
    refine ⟨_, rfl, _, rfl, p, c.Ga, dx, _, rfl, upd_same, T.cl_Ga, T.n_Ga_strict, (by show 2 < 1000; decide), ?_⟩
    refine fun ch hch H5 h5 hc5 => ?_
    have K4 : KP p H1 (upd (upd (upd H1 p (.ins c.Ga dx [("jaws", .ref ja)])) p (.ins c.Ga dx [("jaws", .ref ja), ("let", .ref la)])) p (.ins c.Ga dx [("jaws", .ref ja), ("let", .ref la), ("strict", .bl st)])) := ((KP.up (fun _ _ _ h _ => h) _).up _).up _
    have hp4 : upd (upd (upd H1 p (.ins c.Ga dx [("jaws", .ref ja)])) p (.ins c.Ga dx [("jaws", .ref ja), ("let", .ref la)])) p (.ins c.Ga dx [("jaws", .ref ja), ("let", .ref la), ("strict", .bl st)]) p = some (.ins c.Ga dx [("jaws", .ref ja), ("let", .ref la), ("strict", .bl st)]) := upd_same
    have hch' : upd (upd (upd H1 p (.ins c.Ga dx [("jaws", .ref ja)])) p (.ins c.Ga dx [("jaws", .ref ja), ("let", .ref la)])) p (.ins c.Ga dx [("jaws", .ref ja), ("let", .ref la), ("strict", .bl st)]) ch = none := hch
    have h5' : ∀ b, b ≠ ch → H5 b = upd (upd (upd H1 p (.ins c.Ga dx [("jaws", .ref ja)])) p (.ins c.Ga dx [("jaws", .ref ja), ("let", .ref la)])) p (.ins c.Ga dx [("jaws", .ref ja), ("let", .ref la), ("strict", .bl st)]) b := h5
    generalize upd (upd (upd H1 p (.ins c.Ga dx [("jaws", .ref ja)])) p (.ins c.Ga dx [("jaws", .ref ja), ("let", .ref la)])) p (.ins c.Ga dx [("jaws", .ref ja), ("let", .ref la), ("strict", .bl st)]) = H4 at K4 hp4 hch' h5'
    have e45 : Same H4 H5 := fun b u hb => by rw [h5' b (fun z => by rw [z, hch'] at hb; cases hb)]; exact hb
    have K5 := K4.same e45
    have hp5 := e45 _ _ hp4
    have hcp : ch ≠ p := fun z => by rw [z, hp4] at hch'; cases hch'
    have kup : ∀ {Hx : Hp} {fs : List (Str × V)} (o : HO), Hx p = some (.ins c.Ga dx fs) → TKeep K Hx (upd Hx p o) := fun o h => tkeep_upd h (fun _ z => by cases z) (fun _ _ z => by cases z)
    refine ⟨_, rfl, p, c.Ga, dx, _, rfl, hp5, T.cl_Ga, T.n_Ga_choices, (by show 3 < 1000; decide), ?_⟩
    refine fun wa hwa H7 h7 hw7 => ?_
    have K6 : KP p H1 (upd H5 p (.ins c.Ga dx [("jaws", .ref ja), ("let", .ref la), ("strict", .bl st), ("choices", .ref ch)])) := K5.up _
    have hp6 : upd H5 p (.ins c.Ga dx [("jaws", .ref ja), ("let", .ref la), ("strict", .bl st), ("choices", .ref ch)]) p = some (.ins c.Ga dx [("jaws", .ref ja), ("let", .ref la), ("strict", .bl st), ("choices", .ref ch)]) := upd_same
    have hc6 : NDictM P w K (upd H5 p (.ins c.Ga dx [("jaws", .ref ja), ("let", .ref la), ("strict", .bl st), ("choices", .ref ch)])) ch [] := NDictM.to hc5 (upd_ne hcp) (kup _ hp5)
    have hwa' : upd H5 p (.ins c.Ga dx [("jaws", .ref ja), ("let", .ref la), ("strict", .bl st), ("choices", .ref ch)]) wa = none := hwa
    have h7' : ∀ b, b ≠ wa → H7 b = upd H5 p (.ins c.Ga dx [("jaws", .ref ja), ("let", .ref la), ("strict", .bl st), ("choices", .ref ch)]) b := h7
    generalize upd H5 p (.ins c.Ga dx [("jaws", .ref ja), ("let", .ref la), ("strict", .bl st), ("choices", .ref ch)]) = H6 at K6 hp6 hc6 hwa' h7'
    have e67 : Same H6 H7 := fun b u hb => by rw [h7' b (fun z => by rw [z, hwa'] at hb; cases hb)]; exact hb
    have hcw : ch ≠ wa := fun z => hc6.live (by rw [z]; exact hwa')
    have hwp : wa ≠ p := fun z => by rw [z, hp6] at hwa'; cases hwa'
    have hc7 := hc6.same e67
    have hp7 := e67 _ _ hp6
    have K7 := K6.same e67
    refine ⟨_, rfl, p, c.Ga, dx, _, rfl, hp7, T.cl_Ga, T.n_Ga_worth, (by show 4 < 1000; decide), ?_⟩
    rw [show putF ("worth" : Str) (V.ref wa) ([("jaws", .ref ja), ("let", .ref la), ("strict", .bl st), ("choices", .ref ch)] : List (Str × V)) = ([("jaws", .ref ja), ("let", .ref la), ("strict", .bl st), ("choices", .ref ch), ("worth", .ref wa)] : List (Str × V)) from by kernel_rfl]
    have K8 : KP p H1 (upd H7 p (.ins c.Ga dx [("jaws", .ref ja), ("let", .ref la), ("strict", .bl st), ("choices", .ref ch), ("worth", .ref wa)])) := K7.up _
    have hp8 : upd H7 p (.ins c.Ga dx [("jaws", .ref ja), ("let", .ref la), ("strict", .bl st), ("choices", .ref ch), ("worth", .ref wa)]) p = some (.ins c.Ga dx [("jaws", .ref ja), ("let", .ref la), ("strict", .bl st), ("choices", .ref ch), ("worth", .ref wa)]) := upd_same
    have hc8 : NDictM P w K (upd H7 p (.ins c.Ga dx [("jaws", .ref ja), ("let", .ref la), ("strict", .bl st), ("choices", .ref ch), ("worth", .ref wa)])) ch [] := hc7.to (upd_ne hcp) (kup _ hp7)
    have hw8 : NDictM P w K (upd H7 p (.ins c.Ga dx [("jaws", .ref ja), ("let", .ref la), ("strict", .bl st), ("choices", .ref ch), ("worth", .ref wa)])) wa [] := NDictM.to hw7 (upd_ne hwp) (kup _ hp7)
    generalize upd H7 p (.ins c.Ga dx [("jaws", .ref ja), ("let", .ref la), ("strict", .bl st), ("choices", .ref ch), ("worth", .ref wa)]) = H8 at K8 hp8 hc8 hw8
    have hJ8 := hJ.kp K8 hp1
    obtain ⟨dxj, jl, jg, js, hj8, _⟩ := id hJ8.ob
    refine ⟨_, rfl, p, c.Ga, dx, _, _, rfl, hp8, T.cl_Ga, T.n_Ga_jaws, (by kernel_rfl), ja, dxj, _, rfl, hj8, (by unfold jawsFs; kernel_rfl), _, rfl, p, c.Ga, dx, _, _, rfl, hp8, T.cl_Ga, T.n_Ga_jaws, (by kernel_rfl), ja, dxj, _, rfl, hj8, (by unfold jawsFs; kernel_rfl), ja, wdF N pds, rfl, hJ8, O, fun H9 tp e89 hdp => ?_⟩
    have hp9 := e89 _ _ hp8
    have hJ9 := hJ8.same e89
    have K9 := K8.same e89
    have hc9 := hc8.same e89
    have hw9 := hw8.same e89
    refine ⟨_, rfl, ja, .ref tp, st, wdF N pds, allP (wdF N pds), rfl, hJ9, O, hdp, allP_ne O, (fun p hp => mem_allP hp), ?_⟩
    refine ⟨_, rfl, p, c.Ga, dx, _, rfl, hp9, T.cl_Ga, T.n_Ga_begins_told, (by show 5 < 1000; decide), ?_⟩
    rw [show putF ("begins_told" : Str) (V.bl (toldF (wdF N pds) st (allP (wdF N pds)))) ([("jaws", .ref ja), ("let", .ref la), ("strict", .bl st), ("choices", .ref ch), ("worth", .ref wa)] : List (Str × V)) = ([("jaws", .ref ja), ("let", .ref la), ("strict", .bl st), ("choices", .ref ch), ("worth", .ref wa), ("begins_told", .bl (toldF (wdF N pds) st (allP (wdF N pds))))] : List (Str × V)) from by kernel_rfl]
    have K10 : KP p H1 (upd H9 p (.ins c.Ga dx [("jaws", .ref ja), ("let", .ref la), ("strict", .bl st), ("choices", .ref ch), ("worth", .ref wa), ("begins_told", .bl (toldF (wdF N pds) st (allP (wdF N pds))))])) := K9.up _
    have hp10 : upd H9 p (.ins c.Ga dx [("jaws", .ref ja), ("let", .ref la), ("strict", .bl st), ("choices", .ref ch), ("worth", .ref wa), ("begins_told", .bl (toldF (wdF N pds) st (allP (wdF N pds))))]) p = some (.ins c.Ga dx [("jaws", .ref ja), ("let", .ref la), ("strict", .bl st), ("choices", .ref ch), ("worth", .ref wa), ("begins_told", .bl (toldF (wdF N pds) st (allP (wdF N pds))))]) := upd_same
    have hc10 : NDictM P w K (upd H9 p (.ins c.Ga dx [("jaws", .ref ja), ("let", .ref la), ("strict", .bl st), ("choices", .ref ch), ("worth", .ref wa), ("begins_told", .bl (toldF (wdF N pds) st (allP (wdF N pds))))])) ch [] := hc9.to (upd_ne hcp) (kup _ hp9)
    have hw10 : NDictM P w K (upd H9 p (.ins c.Ga dx [("jaws", .ref ja), ("let", .ref la), ("strict", .bl st), ("choices", .ref ch), ("worth", .ref wa), ("begins_told", .bl (toldF (wdF N pds) st (allP (wdF N pds))))])) wa [] := hw9.to (upd_ne hwp) (kup _ hp9)
    generalize upd H9 p (.ins c.Ga dx [("jaws", .ref ja), ("let", .ref la), ("strict", .bl st), ("choices", .ref ch), ("worth", .ref wa), ("begins_told", .bl (toldF (wdF N pds) st (allP (wdF N pds))))]) = H10 at K10 hp10 hc10 hw10
    have hJ10 := hJ.kp K10 hp1
    have hj10 : ∃ dxj jl jg js, H10 ja = some (.ins c.Ja dxj (jawsFs (wdF N pds).N jl jg js)) := by
      obtain ⟨a1, a2, a3, a4, a5, _⟩ := hJ10.ob
      exact ⟨a1, a2, a3, a4, a5⟩
    obtain ⟨dxj2, jl2, jg2, js2, hj10⟩ := hj10
    refine ⟨_, rfl, p, dx, _, rfl, hp10, (by kernel_rfl), _, rfl, p, c.Ga, dx, _, _, rfl, hp10, T.cl_Ga, T.n_Ga_jaws, (by kernel_rfl), ja, dxj2, _, rfl, hj10, (by unfold jawsFs; kernel_rfl), ja, wdF N pds, rfl, hJ10, O, fun H11 tp2 e11 hdp2 => ?_⟩
    have hp11 := e11 _ _ hp10
    have K11 := K10.same e11
    have hc11 := hc10.same e11
    have hw11 := hw10.same e11
    obtain ⟨rs, hrs⟩ := Tw.start
    refine ⟨p, dx, ja, la, _, "start", .ref tp2, wdF N pds, N, tb, allP (wdF N pds), rfl, hp11, (by kernel_rfl), (by kernel_rfl), hJ10.same e11, O, hL1.kp K11 hp1, ⟨rs, hrs, Tw.few _ _ hrs⟩, hdp2, (fun p hp => mem_allP hp), (by have := len_allP O; omega), fun H12 l e12 hl0 hbr => ?_⟩
    have hp12 := e12 _ _ hp11
    have K12 := K11.same e12
    refine ⟨_, rfl, p, c.Ga, dx, _, rfl, hp12, T.cl_Ga, T.n_Ga_opening, (by show 6 < 1000; decide), ?_⟩
    rw [show putF ("opening" : Str) (V.ref l) ([("jaws", .ref ja), ("let", .ref la), ("strict", .bl st), ("choices", .ref ch), ("worth", .ref wa), ("begins_told", .bl (toldF (wdF N pds) st (allP (wdF N pds))))] : List (Str × V)) = gameFs ja la st ch wa (toldF (wdF N pds) st (allP (wdF N pds))) l from by kernel_rfl]
    have K13 : KP p H1 (upd H12 p (.ins c.Ga dx (gameFs ja la st ch wa (toldF (wdF N pds) st (allP (wdF N pds))) l))) := K12.up _
    have hp13 : upd H12 p (.ins c.Ga dx (gameFs ja la st ch wa (toldF (wdF N pds) st (allP (wdF N pds))) l)) p = some (.ins c.Ga dx (gameFs ja la st ch wa (toldF (wdF N pds) st (allP (wdF N pds))) l)) := upd_same
    have hc13 : NDictM P w K (upd H12 p (.ins c.Ga dx (gameFs ja la st ch wa (toldF (wdF N pds) st (allP (wdF N pds))) l))) ch [] := (hc11.same e12).to (upd_ne hcp) (kup _ hp12)
    have hw13 : NDictM P w K (upd H12 p (.ins c.Ga dx (gameFs ja la st ch wa (toldF (wdF N pds) st (allP (wdF N pds))) l))) wa [] := (hw11.same e12).to (upd_ne hwp) (kup _ hp12)
    have hb13 : BrAt K (upd H12 p (.ins c.Ga dx (gameFs ja la st ch wa (toldF (wdF N pds) st (allP (wdF N pds))) l))) l (rootF (wdF N pds) tb) := hbr.keep (fun vs hv => by rw [upd_ne (fun z => by rw [z, hp12] at hv; cases hv)]; exact hv) (kup _ hp12) (fkeep_upd hp12 (fun _ _ z => by cases z))
    generalize upd H12 p (.ins c.Ga dx (gameFs ja la st ch wa (toldF (wdF N pds) st (allP (wdF N pds))) l)) = H13 at K13 hp13 hc13 hw13 hb13
    refine ⟨_, rfl, p, dx, _, rfl, hp13, (by unfold gameFs; kernel_rfl), p, dx, ja, la, ch, wa, l, st, toldF (wdF N pds) st (allP (wdF N pds)), wdF N pds, N, tb, rfl, hp13, hJ.kp K13 hp1, O, hL1.kp K13 hp1, Tw, hcw, hc13, hw13, hb13, (fun nf d H' k => hX nf d H' (fun b u n h x => (K13.kx k) b u n (e1 _ _ h) x)), fun H14 kvs wkv k14 hC14 hw14 hwl14 hwv14 => ?_⟩
    have hp14 := k14 _ _ hp13 (fun x z => by cases z)
    have K14 := K13.kx k14
    refine ⟨_, rfl, p, dx, _, rfl, hp14, (by unfold gameFs; kernel_rfl), _, rfl, p, dx, ja, la, ch, wa, l, st, toldF (wdF N pds) st (allP (wdF N pds)), wdF N pds, tb, m, kvs, wkv, rfl, hm, hp14, O, Tw, hcw, hC14, hw14, hwl14, hwv14, fun H15 wkv2 k15 hC15 hw15 hwv15 => ?_⟩
    have K15 := K14.kx k15
    exact q H15 (fun b u n h x => K15 b u n (e1 _ _ h) x) ⟨dx, ja, la, ch, wa, l, kvs, k15 _ _ hp14 (fun x z => by cases z), hJ.kp K15 hp1, hC15, ⟨wkv2, hw15.rd, hwv15⟩, (hb13.kx k14).kx k15⟩
end
end L2.Jw
set_option Elab.async false
set_option linter.all false
set_option maxRecDepth 100000
set_option maxHeartbeats 4000000
namespace L2.Jw
open PySem PySem.Spec PyProof.Rows
section
variable {P : Program} {w : World} {K : PySem.W.Frag} {mg : Str → Option Value} {base : Heap} {c : Cs}
theorem least_mono {wv wv' : Lot → Option Int} (hs : ∀ l k, wv l = some k → wv' l = some k) {b : Brs} {M n : Int} (h : leastF wv b M = n) (hn : n ≤ M) : leastF wv' b 13 ≤ n := by
  unfold leastF at h ⊢
  split at h
  · omega
  · rename_i hb
    rw [if_neg hb]
    obtain ⟨x, hx, e⟩ := List.mem_map.mp (minL_mem (l := b.map fun x => 1 + worstF wv x.2 M) (fun z => hb (List.map_eq_nil_iff.mp z)))
    rw [h] at e
    refine Int.le_trans (minL_le (List.mem_map.mpr ⟨x, hx, rfl⟩)) ?_
    have he : worstF wv x.2 M = n - 1 := by
      have e' : 1 + worstF wv x.2 M = n := e
      omega
    have : worstF wv' x.2 13 = worstF wv x.2 M := by
      unfold worstF at he ⊢
      congr 1
      refine List.map_congr_left fun q hq => ?_
      have hle : (wv q.2).getD M ≤ maxL (x.2.map fun q => (wv q.2).getD M) := maxL_ge (List.mem_map.mpr ⟨q, hq, rfl⟩)
      rw [he] at hle
      cases hv : wv q.2 with
      | some k => rw [hs _ _ hv]; rfl
      | none =>
        rw [hv] at hle
        have : M ≤ n - 1 := hle
        omega
    show 1 + worstF wv' x.2 13 ≤ n
    omega
theorem least_le {wv : Lot → Option Int} {b : Brs} {m n : Int} (hm : m ≤ 12) (h : leastF wv b (m + 1) = n) (hn : n ≤ m) : leastF wv b 13 ≤ n := least_mono (fun _ _ h => h) h (by omega)
theorem stepV_old {W : Wd} {tb : Tb} {st : Bool} {ks : List Lot} {n : Int} {wv : Lot → Option Int} {l : Lot} {k : Int} (h : wv l = some k) : stepV W tb st ks n wv l = some k := by
  unfold stepV
  rw [h]
theorem weigh_ok' {W : Wd} {tb : Tb} {st : Bool} {ks : List Lot} (hks : ∀ l, l ∈ ks ↔ Reach W tb st l) : ∀ {m : Nat}, m ≤ 12 → (∀ l k, weighF W tb st ks m l = some k → 0 ≤ k ∧ k ≤ m) ∧ WvOk W tb st (weighF W tb st ks m)
  | 0, _ => by
    have hb : ∀ l k, weighF W tb st ks 0 l = some k → k = 0 ∧ l ∈ ks ∧ toldF W st l.2 = true := fun l k h => by
      have h' : (if l ∈ ks ∧ toldF W st l.2 = true then some (0 : Int) else none) = some k := h
      split at h'
      · rename_i hc
        cases h'
        exact ⟨rfl, hc⟩
      · cases h'
    refine ⟨fun l k h => ?_, ⟨fun l k h => ?_, fun l k h => (hks l).mp (hb l k h).2.1, fun l h => (hb l _ h).2.2, fun l k h hk => absurd (hb l k h).1 hk⟩⟩
    · have := (hb l k h).1
      omega
    · have := (hb l k h).1
      omega
  | m + 1, hm => by
    obtain ⟨i1, i2⟩ := weigh_ok' hks (m := m) (by omega)
    have hs : ∀ l k, weighF W tb st ks m l = some k → weighF W tb st ks (m + 1) l = some k := fun l k h => stepV_old h
    have hc : ∀ l k, weighF W tb st ks (m + 1) l = some k → weighF W tb st ks m l = some k ∨ (weighF W tb st ks m l = none ∧ k = ((m + 1 : Nat) : Int) ∧ l ∈ ks ∧ leastF (weighF W tb st ks m) (childF W tb st l) ((m + 1 : Nat) : Int) = ((m + 1 : Nat) : Int)) := fun l k h => by
      cases hv : weighF W tb st ks m l with
      | some j =>
        have := hs l j hv
        rw [h] at this
        exact .inl this.symm
      | none =>
        refine .inr ?_
        have h' : stepV W tb st ks ((m + 1 : Nat) : Int) (weighF W tb st ks m) l = some k := h
        unfold stepV at h'
        rw [hv] at h'
        have h2 : (if l ∈ ks ∧ leastF (weighF W tb st ks m) (childF W tb st l) ((m + 1 : Nat) : Int) = ((m + 1 : Nat) : Int) then some ((m + 1 : Nat) : Int) else none) = some k := h'
        split at h2
        · rename_i hq
          cases h2
          exact ⟨rfl, rfl, hq⟩
        · cases h2
    have lo : ∀ l k, weighF W tb st ks (m + 1) l = some k → 0 ≤ k ∧ k ≤ ((m + 1 : Nat) : Int) := fun l k h => by
      rcases hc l k h with h | ⟨_, h, _⟩
      · have := i1 l k h
        omega
      · omega
    refine ⟨lo, ⟨fun l k h => ?_, fun l k h => ?_, fun l h => ?_, fun l k h hk => ?_⟩⟩
    · have := lo l k h
      omega
    · rcases hc l k h with h | ⟨_, _, h, _⟩
      · exact i2.rch l k h
      · exact (hks l).mp h
    · rcases hc l 0 h with h | ⟨_, h, _⟩
      · exact i2.zero l h
      · omega
    · rcases hc l k h with h | ⟨_, h1, _, h2⟩
      · have h3 := i2.pos l k h hk
        have h4 := (i1 l k h).2
        exact Int.le_trans (least_mono hs rfl (by omega)) h3
      · rw [h1]
        exact least_mono hs h2 (Int.le_refl _)
theorem weigh_ok {W : Wd} {tb : Tb} {st : Bool} {ks : List Lot} (hks : ∀ l, l ∈ ks ↔ Reach W tb st l) {m : Nat} (hm : m ≤ 12) : WvOk W tb st (weighF W tb st ks m) := (weigh_ok' hks hm).2
/-! ### Game(..), told of what is new -/
def spGaN (P : Program) (w : World) (K : PySem.W.Frag) (c : Cs) : Sp := fun vs H Q E => ∃ (pa la : Addr) (N : Int) (pds : List PartD) (tb : Tb) (m : Nat) (st : Bool), vs = [.ref pa, .ref la, .int (m : Int), .bl st] ∧ m ≤ 12 ∧ PartsAt K c H pa N pds ∧ 1 ≤ pds.length ∧ pds.length ≤ 3 ∧ (∀ d ∈ pds, PartOk N d) ∧
  LetAt K c H la N tb ∧ tb.length ≤ 5 ∧ (∀ q ∈ tb, q.2.length ≤ 7) ∧ TbWf tb ∧ (¬ Few (wdF N pds) tb st → ∀ d H', KX H H' → E (.ref c.TM) (some d) H') ∧ ∀ H' p, KX H H' → GameAt P w K c H' p (wdF N pds) tb st m → Q (.ref p) H'
theorem nw_Game {E : XK} : ∀ (vs : List V) (H : Hp) (Q : VK), spGaN P w K c vs H Q E → ∀ x dx, H x = none → H dx = none → dx ≠ x → spGaI P w K c (V.ref x :: vs) (upd (upd H dx (.own x)) x (.ins c.Ga dx [])) (fun v H2 => v = .non ∧ Q (.ref x) H2) E := by
  rintro vs H Q ⟨pa, la, N, pds, tb, m, st, rfl, hm, hP, l1, l3, hok, hL, h5, h7, Tw, hX, q⟩ x dx hx hdx hne
  have e := same_made (C := c.Ga) hx hdx
  exact ⟨x, dx, pa, la, N, pds, tb, m, st, rfl, hm, upd_same, hP.same e, l1, l3, hok, hL.same e, h5, h7, Tw, wOk l1 l3 hok, (fun nf d H' k => hX nf d H' (fun b u h n => k b u (fun z => by rw [z, hx] at h; cases h) (e _ _ h) n)), fun H' k hG => ⟨rfl, q H' x (fun b u h n => k b u (fun z => by rw [z, hx] at h; cases h) (e _ _ h) n) hG⟩⟩
/-! ### tell(parts, let, most=.., settled=..) -/
/-- what tell hands back -/
def TellR (K : PySem.W.Frag) (W : Wd) (tb : Tb) (st : Bool) (m : Nat) (H : Hp) (v : V) : Prop := Few W tb st ∧ ∃ ks : List Lot, (∀ l, l ∈ ks ↔ Reach W tb st l) ∧
  match numF (weighF W tb st ks m) (rootF W tb) (toldF W st (allP W)) m with
  | none => v = .non
  | some n => ∃ a u, v = .ref a ∧ SqT K H a [.int n, u] ∧ TreeAt K H u (treeF W tb st (weighF W tb st ks m) 12 (toldF W st (allP W)) (rootF W tb) (allP W) 0)
def spTell (K : PySem.W.Frag) (c : Cs) : Sp := fun vs H Q E => ∃ (pa la : Addr) (N : Int) (pds : List PartD) (tb : Tb) (m : Nat) (st : Bool), vs = [.ref pa, .ref la, .int (m : Int), .bl st] ∧ m ≤ 12 ∧ PartsAt K c H pa N pds ∧ 1 ≤ pds.length ∧ pds.length ≤ 3 ∧ (∀ d ∈ pds, PartOk N d) ∧
  LetAt K c H la N tb ∧ tb.length ≤ 5 ∧ (∀ q ∈ tb, q.2.length ≤ 7) ∧ TbWf tb ∧ (¬ Few (wdF N pds) tb st → ∀ d H', KX H H' → E (.ref c.TM) (some d) H') ∧ ∀ H' v, KX H H' → TellR K (wdF N pds) tb st m H' v → Q v H'
abbrev s_tell : Stmt := top 57
theorem c_tell : FnScope ["parts", "let", "most", "settled", "game", "count"] ["parts", "let", "most", "settled"] (defScope s_tell) := ⟨rfl, rfl, rfl, by decide +kernel, rfl, by decide +kernel, by decide +kernel⟩
theorem f_tell (T : Tx K mg c) : ∃ f fd, mg "tell" = some (.ref f) ∧ FunD K "tell" "tell" (defArgs (top 57)) (defBody (top 57)) (defScope (top 57)) [] [("most", .int 12), ("settled", .bl false)] f fd ∧ FnOk P w K mg base (CX P w) 17 f fd ["parts", "let", "most", "settled"] (spTell K c) := by
  obtain ⟨f, fd, hm, F⟩ := T.tell
  refine ⟨f, fd, hm, F, F.ok (k := 16) c_tell (fun vs H Q E h => ?_) fun cdv A outer s H vs Q E hr h => ?_⟩
  · obtain ⟨pa, la, N, pds, tb, m, st, rfl, _⟩ := h
    rfl
  · obtain ⟨pa, la, N, pds, tb, m, st, rfl, hm, hP, l1, l3, hok, hL, h5, h7, Tw, hX, q⟩ := h
    refine ⟨_, (pss_cons (ps_set (i := 4) c_tell.nd rfl (Or.inl rfl) (pe_New (m_Game T) (hr.mono (by first | decide | omega)) rfl (passes_call (takes_of rfl rfl rfl rfl) (fun _ _ _ _ h => h)) nw_Game (pa_cons (pv 0) (pa_cons (pv 1) (pa_cons (pv 2) (pa_cons (pv 3) pa_nil))))))
      (pss_cons (ps_set (i := 5) c_tell.nd rfl (Or.inl rfl) (pe_M (pv 4) (e_Game_number T) (hr.mono (by first | decide | omega)) pass0 (pa_cons (pv 2) pa_nil)))
      (pss_cons (ps_if (pt_cmpR op_isN (pv 5) pe_non (nomark _)) (pss_one (ps_ret pe_non)) pss_nil)
      (pss_one (ps_ret (pe_tup (pa_cons (pv 5) (pa_cons (pe_M (pv 4) (e_Game_tree T 13) (hr.mono (by first | decide | omega)) pass0 (pa_cons (pe_fld (pv 4) rfl) (pa_cons (pe_M0 (pe_fld (pv 4) rfl) (e_Jaws_all_pairs T) (hr.mono (by first | decide | omega)) pass0) (pa_cons (pe_fld (pv 4) rfl) (pa_cons pe_int pa_nil))))) pa_nil)))))))), ?_⟩
    have O := wOk l1 l3 hok
    refine ⟨_, rfl, _, rfl, _, rfl, _, rfl, pa, la, N, pds, tb, m, st, rfl, hm, hP, l1, l3, hok, hL, h5, h7, Tw, hX, fun H1 g k1 hG => ?_⟩
    obtain ⟨dx, ja, la', ch, wa, op, kvs, hg, hJ, hC, hw, hb⟩ := hG.ob
    have hbo : BrsOk (rootF (wdF N pds) tb) := brF_ok Tw Tw.start (by have := len_allP O; omega) (allP_ne O)
    have hwv := weigh_ok (W := wdF N pds) (tb := tb) (st := st) hC.all hm
    refine ⟨_, rfl, g, dx, _, rfl, hg, (by unfold gameFs; kernel_rfl), _, rfl, g, dx, ja, la', ch, wa, op, st, toldF (wdF N pds) st (allP (wdF N pds)), weighF (wdF N pds) tb st (kvs.map Prod.fst) m, rootF (wdF N pds) tb, m, rfl, hg, hw, hb, hbo, fun H2 e2 => ?_⟩
    have k2 : KX H H2 := k1.trans (KX.of e2)
    have hfew : Few (wdF N pds) tb st := fun L hn hr => by
      have h1 := nodup_len hn (m := kvs.map Prod.fst) fun x hx => (hC.all x).mpr (hr x hx)
      have h2 := hC.few
      rw [List.length_map] at h1
      omega
    refine ⟨_, rfl, rfl, _, rfl, ?_⟩
    cases hn : numF (weighF (wdF N pds) tb st (kvs.map Prod.fst) m) (rootF (wdF N pds) tb) (toldF (wdF N pds) st (allP (wdF N pds))) m with
    | none =>
      refine itD rfl ?_
      refine q H2 _ k2 ⟨hfew, kvs.map Prod.fst, hC.all, ?_⟩
      rw [hn]
    | some n =>
      refine itN (fun z => by cases z) ?_
      have hg2 := e2 _ _ hg
      have hJ2 := hJ.same e2
      obtain ⟨dxj, jl, jg, js, hj2, _⟩ := id hJ2.ob
      refine ⟨_, rfl, _, rfl, g, dx, _, rfl, hg2, (by unfold gameFs; kernel_rfl), _, rfl, g, c.Ga, dx, _, .ref op, rfl, hg2, T.cl_Ga, T.n_Ga_opening, (by unfold gameFs; kernel_rfl), _, rfl, g, c.Ga, dx, _, .ref ja, rfl, hg2, T.cl_Ga, T.n_Ga_jaws, (by unfold gameFs; kernel_rfl), ja, dxj, _, rfl, hj2, (by unfold jawsFs; kernel_rfl), ja, wdF N pds, rfl, hJ2, O, fun H3 tp e3 hdp => ?_⟩
      have e13 := e2.trans e3
      refine ⟨_, rfl, g, c.Ga, dx, _, .bl (toldF (wdF N pds) st (allP (wdF N pds))), rfl, e13 _ _ hg, T.cl_Ga, T.n_Ga_begins_told, (by unfold gameFs; kernel_rfl), g, dx, op, ja, la', ch, wa, op, st, toldF (wdF N pds) st (allP (wdF N pds)), toldF (wdF N pds) st (allP (wdF N pds)), wdF N pds, tb, weighF (wdF N pds) tb st (kvs.map Prod.fst) m, kvs, rootF (wdF N pds) tb, .ref tp, allP (wdF N pds), 0, rfl, e13 _ _ hg, hJ.same e13, O, Tw, hC.same e13, hw.same e13, hwv, hb.same e13, hbo, hdp, allP_ne O, fun hf => ?_, (by show (12 : Nat) ≤ 12; decide), fun H4 u e4 htr => ?_⟩
      · have hn2 := hn
        unfold numF at hn2
        rw [hf, if_neg Bool.false_ne_true] at hn2
        split at hn2
        · rename_i hle
          have := least_le (by omega) rfl hle
          show _ ≤ ((12 : Nat) : Int)
          omega
        · cases hn2
      · refine ⟨(by show 2 ≤ sizeLine; decide), fun r hr2 => ?_⟩
        have e5 := same_new (o := .tup [.int n, u]) hr2
        refine q _ _ (k2.trans (KX.of ((e3.trans e4).trans e5))) ⟨hfew, kvs.map Prod.fst, hC.all, ?_⟩
        rw [hn]
        exact ⟨r, u, rfl, SqT.of upd_same, htr.keep (tkeep_same e5) (Same.fkeep e5)⟩
end
end L2.Jw
set_option Elab.async false
set_option linter.all false
set_option maxRecDepth 100000
set_option maxHeartbeats 4000000
namespace L2.Jw
open PySem PySem.Spec PyProof.Rows
section
variable {P : Program} {w : World} {K : PySem.W.Frag} {mg : Str → Option Value} {base : Heap} {c : Cs}
/-! ### tell, called by keywords inside a try -/
def tCallNS (n m : Nat) (sp : Sp) (gV : List V → List V → List V) (E : L2.St → XK) (t tk : TA) : TE := fun σ H Q => t σ H fun vs H1 => tk σ H1 fun zs H2 => vs.length = n ∧ zs.length = m ∧ sp (gV vs zs) H2 Q (E σ)
theorem pe_callNS {X : Cx} {CX : CXT} {k n : Nat} {f : Addr} {fd : FuncData} {ps ks : List Str} {sp : Sp} {E : L2.St → XK} {x : Str} {p pos : Pos} {e : Expr} {es : List Expr} {kws : List Keyword} {t tk : TA} {g : List Value → List Value → List Value} {gV : List V → List V → List V}
    (F : FnOk X.prog X.w X.K X.mg X.base CX k f fd ps sp) (hr : Room k X.A) (hg : Gl X x) (hm : X.mg x = some (.ref f)) (hk : PySem.W.keepIn X.K (.ref f) = true) (hb : KBn X.K fd ps n ks g gV) (hx : ∀ σ, PassesAt CX X σ (E σ))
    (ha : PA X (e :: es) t) (hkw : PK X kws tk) (hall : (backToKw pos (keywordEach kws X.env)).all (·.1.isSome) = true := by rfl) (hks : (backToKw pos (keywordEach kws X.env)).filterMap (·.1) = ks := by rfl)
    (hdb : (x == ("__debug__" : Str)) = false := by decide) (he : starEach (e :: es) X.env = (false, eval e X.env) :: starEach es X.env := by rfl)
    (hpl : ((backTo pos (starEach (e :: es) X.env)).any (·.1) || (backToKw pos (keywordEach kws X.env)).any (·.1.isNone)) = false := by rfl) :
    PE X (.Call (.Name x p) (e :: es) kws pos) (tCallNS n ks.length sp gV E t tk) := by
  refine ⟨fun pins s σ H Q I h => ?_⟩
  refine wpAny_Call_Name_kw (ld_glob I hg hm ?_ hdb)
  refine PySem.W.callWith_KW (h₀ := X.base) I.ok.mod.kin hk hall (thn (ha.run pos pins s σ H _ I h) fun us s1 ⟨vs, H1, I1, r, q⟩ => ?_) hpl he
  refine thn (hkw.run pos pins s1 σ H1 _ I1 q) fun ws s2 ⟨zs, H2, I2, rz, l1, l2, q2⟩ => ⟨I2.kIn, ?_⟩
  rw [hks]
  have r2 := hb.rel r rz
  refine wpAny_call (codeAny_mono (F.run X.A X.stack s2 H2 ⟨us, ks.zip ws⟩ (g us ws) (gV vs zs) Q (E σ) hr I2.env0 (hb.to s2 us ws I2.kIn (r.length.symm.trans l1) (rz.length.symm.trans l2)) r2 q2) fun fl s' hq => ?_)
  rcases fl with er | fl
  · exact hx σ pins H2 s2 er s' I2 hq
  · cases fl with
    | ret u => exact I2.after hq
    | next => exact False.elim hq
    | brk => exact False.elim hq
    | cont => exact False.elim hq
theorem kb_tell2 {f : Addr} {fd : FuncData} (F : FunD K "tell" "tell" (defArgs (top 57)) (defBody (top 57)) (defScope (top 57)) [] [("most", .int 12), ("settled", .bl false)] f fd) : ∃ g, KBn K fd ["parts", "let", "most", "settled"] 2 ["most", "settled"] g (fun vs zs => vs ++ zs) := by
  obtain ⟨mv, h⟩ := F.kbinds0 (ps := ["parts", "let", "most", "settled"]) 2 ["most", "settled"] [] (fun us _ ws => us ++ ws) (fun z => by cases z) (fun q hq => by cases hq) (fun r1 _ r3 => Vals.append r1 r3) (fun D doc pm an cdv ct us mv ws l1 l2 l3 => by
    match us, l1, ws, l3 with
    | [_, _], _, [_, _], _ => rfl)
  exact ⟨_, h⟩
theorem kb_tell1 {f : Addr} {fd : FuncData} (F : FunD K "tell" "tell" (defArgs (top 57)) (defBody (top 57)) (defScope (top 57)) [] [("most", .int 12), ("settled", .bl false)] f fd) : ∃ g, KBn K fd ["parts", "let", "most", "settled"] 2 ["settled"] g (fun vs zs => vs ++ ([V.int 12] ++ zs)) := by
  obtain ⟨mv, h⟩ := F.kbinds0 (ps := ["parts", "let", "most", "settled"]) 2 ["settled"] [("most", .int 12)] (fun us mv ws => us ++ (mv ++ ws)) (fun z => by cases z) (fun q hq => by rw [List.mem_singleton.mp hq]; exact List.mem_cons_self) (fun r1 r2 r3 => Vals.append r1 (Vals.append r2 r3)) (fun D doc pm an cdv ct us mv ws l1 l2 l3 => by
    match us, l1, mv, l2, ws, l3 with
    | [_, _], _, [_], _, [_], _ => exact ⟨_, _, _, _, _, _, rfl, rfl, rfl⟩)
  exact ⟨_, h⟩
/-! ### _law_worst -/
/-- what tell tells, as a number -/
def LWR (W : Wd) (tb : Tb) (st : Bool) (m : Nat) (n : Int) : Prop := (¬ Few W tb st ∧ n = -1) ∨ (Few W tb st ∧ ∃ ks : List Lot, (∀ l, l ∈ ks ↔ Reach W tb st l) ∧ n = (numF (weighF W tb st ks m) (rootF W tb) (toldF W st (allP W)) m).getD 99)
def spLW (K : PySem.W.Frag) (c : Cs) : Sp := fun vs H Q _ => ∃ (pa la : Addr) (N : Int) (pds : List PartD) (tb : Tb) (m : Nat) (st : Bool), vs = [.ref pa, .ref la, .int (m : Int), .bl st] ∧ m ≤ 12 ∧ PartsAt K c H pa N pds ∧ 1 ≤ pds.length ∧ pds.length ≤ 3 ∧ (∀ d ∈ pds, PartOk N d) ∧
  LetAt K c H la N tb ∧ tb.length ≤ 5 ∧ (∀ q ∈ tb, q.2.length ≤ 7) ∧ TbWf tb ∧ ∀ H' n, KX H H' → LWR (wdF N pds) tb st m n → Q (.int n) H'
abbrev s__law_worst : Stmt := top 72
theorem c__law_worst : FnScope ["_law_parts", "_law_let", "_law_most", "_law_settled", "_law_told"] ["_law_parts", "_law_let", "_law_most", "_law_settled"] (defScope s__law_worst) := ⟨rfl, rfl, rfl, by decide +kernel, rfl, by decide +kernel, by decide +kernel⟩
theorem b__law_worst : Bnd0 "_law_worst" "_law_worst" s__law_worst ["_law_parts", "_law_let", "_law_most", "_law_settled"] := fun _ _ _ _ _ _ us hl => match us, hl with | [_, _, _, _], _ => rfl
theorem d__law_worst (T : Tx K mg c) : Df P w K mg base CX0 18 "_law_worst" (spLW K c) := by
  refine df_0 T.D__law_worst c__law_worst b__law_worst (fun vs H Q E h => ?_) fun f cdv A outer s H vs Q E hr h => ?_
  · obtain ⟨pa, la, N, pds, tb, m, st, rfl, _⟩ := h
    rfl
  · obtain ⟨pa, la, N, pds, tb, m, st, rfl, hm, hP, l1, l3, hok, hL, h5, h7, Tw, q⟩ := h
    obtain ⟨ft, fd, hmf, FT, F⟩ := f_tell (P := P) (w := w) (base := base) T
    have hkf := FT.kp
    obtain ⟨gg, hkb⟩ := kb_tell2 FT
    refine ⟨_, (pss_cons (ps_try_only (tb := fun W => tAsg (tCallNS 2 2 (spTell K c) (fun vs zs => vs ++ zs) (WE W) (tCons (tVar 0) (tCons (tVar 1) tNil)) (tCons (tVar 2) (tCons (tVar 3) tNil))) (gName 4)) (ts := fun _ _ _ => tRet (tUn (rU fun i => V.int (-i)) (tC (.int 1)))) (Wout := fun _ _ _ _ => False) rfl rfl ⟨rfl, by decide, Or.inl T.mg_TM⟩ takes0 (fun W pn xe tk _ => pss_one (ps_set (i := 4) c__law_worst.nd rfl (Or.inl rfl) (pe_callNS F (hr.mono (by first | decide | omega)) (by rfl) hmf hkf hkb (fun σ => passAt tk σ) (pa_cons (pv 0) (pa_cons (pv 1) pa_nil)) (pk_cons (pv 2) (pk_cons (pv 3) pk_nil))))) (fun _ _ _ _ _ _ _ => pss_one (ps_ret (pe_un un_neg pe_int))))
      (pss_cons (ps_if (pt_cmpR op_isN (pv 4) pe_non (nomark _)) (pss_one (ps_ret pe_int)) pss_nil)
      (pss_one (ps_ret (pe_ix (r := rIxT K) ix_tup (pv 4) pe_int (fun _ _ => rfl)))))), ?_⟩
    have hmn : m ≤ 12 := hm
    refine ⟨_, rfl, _, rfl, _, rfl, _, rfl, rfl, rfl, pa, la, N, pds, tb, m, st, rfl, hm, hP, l1, l3, hok, hL, h5, h7, Tw, fun nf d H' k => ⟨true, T.exM, fun _ a ha => ?_, fun z => nomatch z⟩, fun H1 v k1 ⟨hf, ks, hks, hv⟩ => ?_⟩
    · exact ⟨_, rfl, q H' _ k (.inl ⟨nf, rfl⟩)⟩
    · have hq : ∀ n, n = (numF (weighF (wdF N pds) tb st ks m) (rootF (wdF N pds) tb) (toldF (wdF N pds) st (allP (wdF N pds))) m).getD 99 → Q (.int n) H1 := fun n hn => q H1 n k1 (.inr ⟨hf, ks, hks, hn⟩)
      cases hn : numF (weighF (wdF N pds) tb st ks m) (rootF (wdF N pds) tb) (toldF (wdF N pds) st (allP (wdF N pds))) m with
      | none =>
        rw [hn] at hv hq
        obtain rfl : v = .non := hv
        refine ⟨_, rfl, rfl, _, rfl, itD rfl ?_⟩
        exact hq 99 rfl
      | some n =>
        rw [hn] at hv hq
        obtain ⟨a, u, rfl, hs, _⟩ := hv
        refine ⟨_, rfl, rfl, _, rfl, itN (fun z => by cases z) ?_⟩
        refine ⟨_, rfl, a, _, _, _, rfl, rfl, hs, atI0, ?_⟩
        exact hq n rfl
end
end L2.Jw
set_option Elab.async false
set_option linter.all false
set_option maxRecDepth 100000
set_option maxHeartbeats 4000000
namespace L2.Jw
open PySem PySem.Spec PyProof.Rows
section
variable {P : Program} {w : World} {K : PySem.W.Frag} {mg : Str → Option Value} {base : Heap} {c : Cs}
/-! ### _law_tree -/
def LTR (K : PySem.W.Frag) (W : Wd) (tb : Tb) (st : Bool) (H : Hp) (v : V) : Prop := (¬ Few W tb st ∧ v = .non) ∨ (Few W tb st ∧ ∃ ks : List Lot, (∀ l, l ∈ ks ↔ Reach W tb st l) ∧
  ((numF (weighF W tb st ks 12) (rootF W tb) (toldF W st (allP W)) 12 = none ∧ v = .non) ∨ (∃ n, numF (weighF W tb st ks 12) (rootF W tb) (toldF W st (allP W)) 12 = some n ∧ TreeAt K H v (treeF W tb st (weighF W tb st ks 12) 12 (toldF W st (allP W)) (rootF W tb) (allP W) 0))))
def spLT (K : PySem.W.Frag) (c : Cs) : Sp := fun vs H Q _ => ∃ (pa la : Addr) (N : Int) (pds : List PartD) (tb : Tb) (st : Bool), vs = [.ref pa, .ref la, .bl st] ∧ PartsAt K c H pa N pds ∧ 1 ≤ pds.length ∧ pds.length ≤ 3 ∧ (∀ d ∈ pds, PartOk N d) ∧
  LetAt K c H la N tb ∧ tb.length ≤ 5 ∧ (∀ q ∈ tb, q.2.length ≤ 7) ∧ TbWf tb ∧ ∀ H' v, KX H H' → LTR K (wdF N pds) tb st H' v → Q v H'
abbrev s__law_tree : Stmt := top 73
theorem c__law_tree : FnScope ["_law_parts", "_law_let", "_law_settled", "_law_told"] ["_law_parts", "_law_let", "_law_settled"] (defScope s__law_tree) := ⟨rfl, rfl, rfl, by decide +kernel, rfl, by decide +kernel, by decide +kernel⟩
theorem b__law_tree : Bnd0 "_law_tree" "_law_tree" s__law_tree ["_law_parts", "_law_let", "_law_settled"] := fun _ _ _ _ _ _ us hl => match us, hl with | [_, _, _], _ => rfl
theorem d__law_tree (T : Tx K mg c) : Df P w K mg base CX0 18 "_law_tree" (spLT K c) := by
  refine df_0 T.D__law_tree c__law_tree b__law_tree (fun vs H Q E h => ?_) fun f cdv A outer s H vs Q E hr h => ?_
  · obtain ⟨pa, la, N, pds, tb, st, rfl, _⟩ := h
    rfl
  · obtain ⟨pa, la, N, pds, tb, st, rfl, hP, l1, l3, hok, hL, h5, h7, Tw, q⟩ := h
    obtain ⟨ft, fd, hmf, FT, F⟩ := f_tell (P := P) (w := w) (base := base) T
    have hkf := FT.kp
    obtain ⟨gg, hkb⟩ := kb_tell1 FT
    refine ⟨_, (pss_cons (ps_try_only (tb := fun W => tAsg (tCallNS 2 1 (spTell K c) (fun vs zs => vs ++ ([V.int 12] ++ zs)) (WE W) (tCons (tVar 0) (tCons (tVar 1) tNil)) (tCons (tVar 2) tNil)) (gName 3)) (ts := fun _ _ _ => tRet (tC .non)) (Wout := fun _ _ _ _ => False) rfl rfl ⟨rfl, by decide, Or.inl T.mg_TM⟩ takes0 (fun W pn xe tk _ => pss_one (ps_set (i := 3) c__law_tree.nd rfl (Or.inl rfl) (pe_callNS F (hr.mono (by first | decide | omega)) (by rfl) hmf hkf hkb (fun σ => passAt tk σ) (pa_cons (pv 0) (pa_cons (pv 1) pa_nil)) (pk_cons (pv 2) pk_nil)))) (fun _ _ _ _ _ _ _ => pss_one (ps_ret pe_non)))
      (pss_cons (ps_if (pt_cmpR op_isN (pv 3) pe_non (nomark _)) (pss_one (ps_ret pe_non)) pss_nil)
      (pss_one (ps_ret (pe_ix (r := rIxT K) ix_tup (pv 3) pe_int (fun _ _ => rfl)))))), ?_⟩
    refine ⟨_, rfl, _, rfl, _, rfl, rfl, rfl, pa, la, N, pds, tb, 12, st, rfl, by decide, hP, l1, l3, hok, hL, h5, h7, Tw, fun nf d H' k => ⟨true, T.exM, fun _ a ha => ?_, fun z => nomatch z⟩, fun H1 v k1 ⟨hf, ks, hks, hv⟩ => ?_⟩
    · exact q H' _ k (.inl ⟨nf, rfl⟩)
    · cases hn : numF (weighF (wdF N pds) tb st ks 12) (rootF (wdF N pds) tb) (toldF (wdF N pds) st (allP (wdF N pds))) ((12 : Nat) : Int) with
      | none =>
        rw [hn] at hv
        obtain rfl : v = .non := hv
        refine ⟨_, rfl, rfl, _, rfl, itD rfl ?_⟩
        exact q H1 _ k1 (.inr ⟨hf, ks, hks, .inl ⟨hn, rfl⟩⟩)
      | some n =>
        rw [hn] at hv
        obtain ⟨a, u, rfl, hs, ht⟩ := hv
        refine ⟨_, rfl, rfl, _, rfl, itN (fun z => by cases z) ?_⟩
        refine ⟨_, rfl, a, _, _, _, rfl, rfl, hs, atI1, ?_⟩
        exact q H1 _ k1 (.inr ⟨hf, ks, hks, .inr ⟨n, hn, ht⟩⟩)
end
end L2.Jw
set_option Elab.async false
set_option linter.all false
set_option maxRecDepth 100000
set_option maxHeartbeats 4000000
namespace L2.Jw
open PySem PySem.Spec PyProof.Rows
section
variable {P : Program} {w : World} {K : PySem.W.Frag} {mg : Str → Option Value} {base : Heap} {c : Cs}
/-! ### trees, their sizes and their ways -/
inductive GoodT : Nat → GT → Prop
  | kind {n : Nat} {k : Int} : GoodT n (.kind k)
  | sq {n : Nat} {t : Int} {cs : List (Int × GT)} : cs ≠ [] → (cs.map Prod.fst).Nodup → cs.length ≤ 200 → (∀ q ∈ cs, GoodT n q.2) → GoodT (n + 1) (.sq t cs)
def sizeF : Nat → GT → Nat
  | 0, _ => 1
  | n + 1, .kind _ => 1
  | n + 1, .sq _ cs => 1 + (cs.map fun q => sizeF n q.2).sum
inductive Path : GT → List (Int × Int) → GT → Prop
  | nil {t : GT} : Path t [] t
  | snoc {t t' : GT} {p : List (Int × Int)} {a : Int} {cs : List (Int × GT)} {q : Int × GT} : Path t p (.sq a cs) → q ∈ cs → t' = q.2 → Path t (p ++ [(a, q.1)]) t'
abbrev Ent := List (Int × Int) × GT
def pends (ws : List Ent) : Nat := (ws.map fun e => sizeF (12 - e.1.length) e.2).sum
/-- an entry of the queue: its way as a tuple of pairs, its tree -/
def EntAt (K : PySem.W.Frag) (H : Hp) (e : Ent) (v : V) : Prop := ∃ a b u, v = .ref a ∧ SqT K H a [.ref b, u] ∧ Dp K H (.ref b) (.tuple (e.1.map prD)) ∧ TreeAt K H u e.2
def FndAt (K : PySem.W.Frag) (H : Hp) (e : List (Int × Int) × Int) (v : V) : Prop := ∃ a l xs, v = .ref a ∧ SqT K H a [.ref l, .int e.2] ∧ H l = some (.lst xs) ∧ DpAll K H xs (e.1.map prD)
def spWays (K : PySem.W.Frag) : Sp := fun vs H Q _ => ∃ (v : V) (t : GT), vs = [v] ∧ TreeAt K H v t ∧ GoodT 12 t ∧ sizeF 12 t ≤ 4000 ∧
  ∀ H' l ys found, Same H H' → H' l = some (.lst ys) → Paired (FndAt K H') found ys → found ≠ [] → found.length ≤ 4000 → (∀ e ∈ found, e.1.length ≤ 12 ∧ Path t e.1 (.kind e.2)) → Q (.ref l) H'
abbrev s__law_ways : Stmt := top 75
theorem c__law_ways : FnScope ["_law_tree_here", "_law_waiting", "_law_found", "_law_at", "_law_way", "_law_here", "_law_width"] ["_law_tree_here"] (defScope s__law_ways) := ⟨rfl, rfl, rfl, by decide +kernel, rfl, by decide +kernel, by decide +kernel⟩
theorem b__law_ways : Bnd0 "_law_ways" "_law_ways" s__law_ways ["_law_tree_here"] := fun _ _ _ _ _ _ us hl => match us, hl with | [_], _ => rfl
theorem sizeF_pos : ∀ (n : Nat) (t : GT), 1 ≤ sizeF n t
  | 0, _ => Nat.le_refl _
  | _ + 1, .kind _ => Nat.le_refl _
  | _ + 1, .sq _ _ => by unfold sizeF; omega
theorem pends_len : ∀ ws : List Ent, ws.length ≤ pends ws
  | [] => Nat.le_refl _
  | e :: ws => by
    have h1 := pends_len ws
    have h2 := sizeF_pos (12 - e.1.length) e.2
    unfold pends at h1 ⊢
    rw [List.map_cons, List.sum_cons, List.length_cons]
    omega
theorem EntAt.keep {H H' : Hp} {e : Ent} {v : V} (h : EntAt K H e v) (k : TKeep K H H') (f : FKeep H H') : EntAt K H' e v := by
  obtain ⟨a, b, u, h1, h2, h3, h4⟩ := h
  refine ⟨a, b, u, h1, k _ _ h2, ?_, h4.keep k f⟩
  obtain ⟨b', xs, e', h5, h6⟩ := dp_tup h3
  cases e'
  exact .tup (k _ _ h5) (prs_tkeep k h6)
def FndI (K : PySem.W.Frag) (H : Hp) (A B : Addr) (e : List (Int × Int) × Int) (v : V) : Prop := ∃ a l xs, v = .ref a ∧ SqT K H a [.ref l, .int e.2] ∧ H l = some (.lst xs) ∧ DpAll K H xs (e.1.map prD) ∧ l ≠ A ∧ l ≠ B
theorem FndI.at {H : Hp} {A B : Addr} {e : List (Int × Int) × Int} {v : V} (h : FndI K H A B e v) : FndAt K H e v := by
  obtain ⟨a, l, xs, h1, h2, h3, h4, _⟩ := h
  exact ⟨a, l, xs, h1, h2, h3, h4⟩
theorem FndI.keep {H H' : Hp} {A B : Addr} {e : List (Int × Int) × Int} {v : V} (h : FndI K H A B e v) (k : TKeep K H H') (hb : ∀ l xs, l ≠ A → l ≠ B → H l = some (.lst xs) → H' l = some (.lst xs)) : FndI K H' A B e v := by
  obtain ⟨a, l, xs, h1, h2, h3, h4, h5, h6⟩ := h
  exact ⟨a, l, xs, h1, k _ _ h2, hb _ _ h5 h6 h3, prs_tkeep k h4, h5, h6⟩
structure WSt (K : PySem.W.Frag) (t : GT) (H0 H : Hp) (Wl F : Addr) (i : Nat) (ws : List Ent) (found : List (List (Int × Int) × Int)) : Prop where
  e : Same H0 H
  w : ∃ vs, H Wl = some (.lst vs) ∧ Paired (EntAt K H) ws vs
  f : ∃ ys, H F = some (.lst ys) ∧ Paired (FndI K H Wl F) found ys
structure WPu (t : GT) (i : Nat) (ws : List Ent) (found : List (List (Int × Int) × Int)) : Prop where
  le : i ≤ ws.length
  sz : i + pends (ws.drop i) = sizeF 12 t
  wp : ∀ e ∈ ws, e.1.length ≤ 12 ∧ Path t e.1 e.2 ∧ GoodT (12 - e.1.length) e.2
  fp : ∀ e ∈ found, e.1.length ≤ 12 ∧ Path t e.1 (.kind e.2)
  ne : found ≠ [] ∨ i < ws.length
  fl : found.length ≤ i
theorem pends_app (a b : List Ent) : pends (a ++ b) = pends a + pends b := by
  unfold pends
  rw [List.map_append, List.sum_append]
theorem WPu.kind {t : GT} {i : Nat} {ws : List Ent} {found : List (List (Int × Int) × Int)} (h : WPu t i ws found) {p : List (Int × Int)} {k : Int} (hi : ws[i]? = some (p, .kind k)) : WPu t (i + 1) ws (found ++ [(p, k)]) := by
  obtain ⟨hl, he⟩ := List.getElem?_eq_some_iff.mp hi
  have hd : ws.drop i = (p, .kind k) :: ws.drop (i + 1) := by rw [List.drop_eq_getElem_cons hl, he]
  have hw := h.wp _ (List.mem_of_getElem? hi)
  refine ⟨hl, ?_, h.wp, fun e he => ?_, .inl (by simp), by rw [List.length_append, List.length_singleton]; have := h.fl; omega⟩
  · have := h.sz
    rw [hd] at this
    have h1 : pends ((p, GT.kind k) :: ws.drop (i + 1)) = 1 + pends (ws.drop (i + 1)) := by
      unfold pends
      rw [List.map_cons, List.sum_cons]
      congr 1
      show sizeF (12 - p.length) (.kind k) = 1
      cases 12 - p.length <;> rfl
    omega
  · rcases List.mem_append.mp he with he | he
    · exact h.fp e he
    · rw [List.mem_singleton.mp he]
      exact ⟨hw.1, hw.2.1⟩
theorem WPu.sq {t : GT} {i : Nat} {ws : List Ent} {found : List (List (Int × Int) × Int)} (h : WPu t i ws found) {p : List (Int × Int)} {a : Int} {cs : List (Int × GT)} (hi : ws[i]? = some (p, .sq a cs)) : WPu t (i + 1) (ws ++ cs.map fun q => (p ++ [(a, q.1)], q.2)) found := by
  obtain ⟨hl, he⟩ := List.getElem?_eq_some_iff.mp hi
  have hd : ws.drop i = (p, .sq a cs) :: ws.drop (i + 1) := by rw [List.drop_eq_getElem_cons hl, he]
  obtain ⟨w1, w2, w3⟩ := h.wp _ (List.mem_of_getElem? hi)
  obtain ⟨m, hm, hcs, hcg⟩ : ∃ m, 12 - p.length = m + 1 ∧ cs ≠ [] ∧ ∀ q ∈ cs, GoodT m q.2 := by
    have w3' : GoodT (12 - p.length) (.sq a cs) := w3
    generalize 12 - p.length = n at w3'
    cases w3' with
    | @sq m _ _ h1 _ _ h2 => exact ⟨m, rfl, h1, h2⟩
  have hpl : ∀ q : Int × GT, (p ++ [(a, q.1)]).length = p.length + 1 := fun q => by rw [List.length_append]; rfl
  refine ⟨by rw [List.length_append]; omega, ?_, fun e he => ?_, h.fp, .inr ?_, by have := h.fl; omega⟩
  · have h0 := h.sz
    rw [hd] at h0
    rw [List.drop_append_of_le_length (by omega), pends_app]
    have h1 : pends ((p, GT.sq a cs) :: ws.drop (i + 1)) = (1 + (cs.map fun q => sizeF m q.2).sum) + pends (ws.drop (i + 1)) := by
      unfold pends
      rw [List.map_cons, List.sum_cons]
      congr 1
      show sizeF (12 - p.length) (.sq a cs) = _
      rw [hm]
      rfl
    have h2 : pends (cs.map fun q => ((p ++ [(a, q.1)], q.2) : Ent)) = (cs.map fun q => sizeF m q.2).sum := by
      unfold pends
      rw [List.map_map]
      congr 1
      refine List.map_congr_left fun q _ => ?_
      show sizeF (12 - (p ++ [(a, q.1)]).length) q.2 = _
      rw [hpl, show 12 - (p.length + 1) = m from by omega]
    omega
  · rcases List.mem_append.mp he with he | he
    · exact h.wp e he
    · obtain ⟨q, hq, rfl⟩ := List.mem_map.mp he
      refine ⟨by show (p ++ [(a, q.1)]).length ≤ 12; rw [hpl]; omega, .snoc w2 hq rfl, ?_⟩
      show GoodT (12 - (p ++ [(a, q.1)]).length) q.2
      rw [hpl, show 12 - (p.length + 1) = m from by omega]
      exact hcg q hq
  · rw [List.length_append, List.length_map]
    have := List.length_pos_iff.mpr hcs
    omega
theorem d__law_ways (T : Tx K mg c) : Df P w K mg base CX0 1 "_law_ways" (spWays K) := by
  refine df_0 T.D__law_ways c__law_ways b__law_ways (fun vs H Q E h => ?_) fun f cdv A outer s H vs Q E hr h => ?_
  · obtain ⟨v, t, rfl, _⟩ := h
    rfl
  · obtain ⟨v, t, rfl, ht, hg, hs, q⟩ := h
    refine ⟨_, (pss_cons (ps_set (i := 1) c__law_ways.nd rfl (Or.inl rfl) (pe_lst (pa_cons (pe_tup (pa_cons (pe_tup pa_nil) (pa_cons (pv 0) pa_nil))) pa_nil)))
      (pss_cons (ps_set (i := 2) c__law_ways.nd rfl (Or.inl rfl) (pe_lst pa_nil))
      (pss_cons (ps_for PassesOwn.never rfl (pi_range1 (by rfl) T.range (pa_cons pe_int pa_nil)) (pg_name (i := 3) c__law_ways.nd rfl (Or.inl rfl))
      (pss_cons (ps_if (pt_cmpR op_ge (pv 3) (pe_callB call_len_seq (by rfl) T.len (by decide +kernel) (pa_cons (pv 1) pa_nil)) (nomark _)) (pss_one ps_break) pss_nil)
      (pss_cons (ps_set (i := 4) c__law_ways.nd rfl (Or.inl rfl) (pe_ix (r := rIxT K) ix_tup (pe_ix (r := rIxL K) ix_list (pv 1) (pv 3) (fun _ _ => rfl)) pe_int (fun _ _ => rfl)))
      (pss_cons (ps_set (i := 5) c__law_ways.nd rfl (Or.inl rfl) (pe_ix (r := rIxT K) ix_tup (pe_ix (r := rIxL K) ix_list (pv 1) (pv 3) (fun _ _ => rfl)) pe_int (fun _ _ => rfl)))
      (pss_cons (ps_if (pt_cmpR op_eq (pe_ix (r := rIxT K) ix_tup (pv 5) pe_int (fun _ _ => rfl)) pe_str (nomark _)) (pss_cons (ps_expr (pe_bm PySem.F.plainAttrs_list PySem.F.slot_list_append PySem.F.type_list_append mt_append (pv 2) (pa_cons (pe_tup (pa_cons (pe_callTy call_list_of (by rfl) T.list (by decide +kernel) (pa_cons (pv 4) pa_nil)) (pa_cons (pe_ix (r := rIxT K) ix_tup (pv 5) pe_int (fun _ _ => rfl)) pa_nil))) pa_nil)))
      (pss_one ps_continue)) pss_nil)
      (pss_one (ps_for PassesOwn.never rfl (pi_keys (pe_ix (r := rIxT K) ix_tup (pv 5) pe_int (fun _ _ => rfl))) (pg_name (i := 6) c__law_ways.nd rfl (Or.inl rfl))
      (pss_one (ps_expr (pe_bm PySem.F.plainAttrs_list PySem.F.slot_list_append PySem.F.type_list_append mt_append (pv 1) (pa_cons (pe_tup (pa_cons (pe_op op_catA (pv 4) (pe_tup (pa_cons (pe_tup (pa_cons (pe_ix (r := rIxT K) ix_tup (pv 5) pe_int (fun _ _ => rfl)) (pa_cons (pv 6) pa_nil))) pa_nil))) (pa_cons (pe_dget (hu_of hr) (pe_ix (r := rIxT K) ix_tup (pv 5) pe_int (fun _ _ => rfl)) (pv 6) (fun _ _ => rfl)) pa_nil))) pa_nil)))))))))))
      (pss_one (ps_ret (pv 2)))))), ?_⟩
    refine ⟨(by show 0 ≤ sizeLine; decide), fun b0 hb0 => ?_⟩
    have e0 := same_new (o := .tup []) hb0
    refine ⟨_, rfl, (by show 2 ≤ sizeLine; decide), fun a0 ha0 => ?_⟩
    have e1 := same_new (o := .tup [.ref b0, v]) ha0
    refine ⟨(by show 1 ≤ sizeLine; decide), fun Wl hWl => ?_⟩
    have e2 := same_new (o := .lst [.ref a0]) hWl
    refine ⟨(by show 0 ≤ sizeLine; decide), fun F hF => ?_⟩
    have e3 := same_new (o := .lst []) hF
    have WF : Wl ≠ F := fun z => by rw [← z, upd_same] at hF; cases hF
    have hW1 := e3 _ _ (upd_same (H := upd (upd H b0 (.tup [])) a0 (.tup [.ref b0, v])) (a := Wl) (o := .lst [.ref a0]))
    have hF1 : upd (upd (upd (upd H b0 (.tup [])) a0 (.tup [.ref b0, v])) Wl (.lst [.ref a0])) F (.lst []) F = some (.lst []) := upd_same
    have hE1 : EntAt K (upd (upd (upd (upd H b0 (.tup [])) a0 (.tup [.ref b0, v])) Wl (.lst [.ref a0])) F (.lst [])) ([], t) (.ref a0) :=
      ⟨a0, b0, v, rfl, same_sqT (e2.trans e3) (SqT.of upd_same), .tup (same_sqT ((e1.trans e2).trans e3) (SqT.of upd_same)) .nil, ht.keep (tkeep_same (((e0.trans e1).trans e2).trans e3)) (Same.fkeep (((e0.trans e1).trans e2).trans e3))⟩
    have e03 : Same H (upd (upd (upd (upd H b0 (.tup [])) a0 (.tup [.ref b0, v])) Wl (.lst [.ref a0])) F (.lst [])) := ((e0.trans e1).trans e2).trans e3
    have hWl0 : H Wl = none := by
      cases hz : H Wl with
      | none => rfl
      | some o => rw [e1 _ _ (e0 _ _ hz)] at hWl; cases hWl
    have hF0 : H F = none := by
      cases hz : H F with
      | none => rfl
      | some o => rw [e2 _ _ (e1 _ _ (e0 _ _ hz))] at hF; cases hF
    generalize upd (upd (upd (upd H b0 (.tup [])) a0 (.tup [.ref b0, v])) Wl (.lst [.ref a0])) F (.lst []) = H0 at hW1 hF1 hE1 e03 ⊢
    refine ⟨_, rfl, by omega, by omega, ?_⟩
    have hend : ∀ (H3 : Hp) (i : Nat) (ws : List Ent) (found : List (List (Int × Int) × Int)), WSt K t H H3 Wl F i ws found → WPu t i ws found → (ws.length ≤ i ∨ 4000 ≤ i) → Q (.ref F) H3 := fun H3 i ws found S U hi => by
      obtain ⟨ys, h1, h2⟩ := S.f
      have hfl := U.fl
      have hsz := U.sz
      have hne : found ≠ [] := by
        rcases U.ne with h | h
        · exact h
        · exfalso
          have h4 := pends_len (ws.drop i)
          rw [List.length_drop] at h4
          omega
      exact q H3 F ys found S.e h1 (Paired.mapP h2 fun _ _ x => x.at) hne (by omega) U.fp
    refine for_it (walk_range (lo := 0)) (fun i σ H3 => ∃ (ws : List Ent) (found : List (List (Int × Int) × Int)) (x3 x4 x5 x6 : Option V), σ = [some v, some (.ref Wl), some (.ref F), x3, x4, x5, x6] ∧ WSt K t H H3 Wl F i ws found ∧ WPu t i ws found)
      ⟨[([], t)], [], none, none, none, none, rfl, ⟨e03, ⟨_, hW1, .cons hE1 .nil⟩, ⟨_, hF1, .nil⟩⟩, ⟨Nat.zero_le _, ?_, ?_, (fun e he => by cases he), .inr (by show 0 < 1; omega), Nat.le_refl _⟩⟩ (fun _ _ _ _ _ => True.intro) ?_ ?_
    · show 0 + (sizeF 12 t + 0) = _
      omega
    · intro e he
      rw [List.mem_singleton.mp he]
      exact ⟨Nat.zero_le _, .nil, hg⟩
    · rintro i x σ H3' H3 hi ⟨ws, found, x3, x4, x5, x6, rfl, S, U⟩ ⟨rfl, rfl⟩
      obtain ⟨vs, hvs, hpw⟩ := S.w
      have hvl : vs.length = ws.length := (Paired.len hpw).symm
      have h0i : (0 : Int) + (i : Int) = ((i : Nat) : Int) := by omega
      show gName 3 (V.int (0 + (i : Int))) _ _ _
      rw [h0i]
      refine ⟨_, rfl, _, rfl, Wl, vs, rfl, .inl (SqL.of hvs), _, _, rfl, rfl, _, rfl, ?_⟩
      by_cases hlt : i < ws.length
      · refine itN (fun z => by have z' : ((vs.length : Nat) : Int) ≤ (i : Int) := z; omega) ?_
        obtain ⟨⟨p, t'⟩, he⟩ : ∃ e, ws[i]? = some e := ⟨_, List.getElem?_eq_getElem hlt⟩
        obtain ⟨y, hy, ea, eb, eu, rfl, hs1, hs2, hs3⟩ := paired_get' hpw he
        refine ⟨_, rfl, _, rfl, Wl, _, _, _, rfl, rfl, SqL.of hvs, atI_nat hy, ea, _, _, _, rfl, rfl, hs1, atI0, ?_⟩
        refine ⟨_, rfl, _, rfl, Wl, _, _, _, rfl, rfl, SqL.of hvs, atI_nat hy, ea, _, _, _, rfl, rfl, hs1, atI1, ?_⟩
        obtain ⟨ys, hys, hpf⟩ := S.f
        have hfl := U.fl
        obtain ⟨eb', bs, eeb, hb1, hb2⟩ := dp_tup hs2
        cases eeb
        cases t' with
        | kind k =>
          cases hs3 with
          | @kind a' _ hsq =>
          refine ⟨_, rfl, a', _, _, _, rfl, rfl, hsq, atI0, rfl, _, rfl, itD rfl ?_⟩
          refine ⟨_, rfl, .inl ⟨rfl, _, SqL.of hys⟩, _, rfl, eb, bs, rfl, .inr hb1, fun l hl => ?_⟩
          have e4 := same_new (o := .lst bs) hl
          refine ⟨_, rfl, a', _, _, _, rfl, rfl, same_sqT e4 hsq, atI1, (by show 2 ≤ sizeLine; decide), fun u hu => ?_⟩
          have e5 := same_new (o := .tup [.ref l, .int k]) hu
          have e45 := e4.trans e5
          have hys5 := e45 _ _ hys
          have k6 : TKeep K (upd (upd H3 l (.lst bs)) u (.tup [.ref l, .int k])) (upd (upd (upd H3 l (.lst bs)) u (.tup [.ref l, .int k])) F (.lst (ys ++ [.ref u]))) := lst_tkeep hys5
          have f6 : FKeep (upd (upd H3 l (.lst bs)) u (.tup [.ref l, .int k])) (upd (upd (upd H3 l (.lst bs)) u (.tup [.ref l, .int k])) F (.lst (ys ++ [.ref u]))) := fkeep_upd hys5 (fun _ _ z => by cases z)
          have hlW : l ≠ Wl := fun z => by rw [z, hvs] at hl; cases hl
          have hlF : l ≠ F := fun z => by rw [z, hys] at hl; cases hl
          have hyl : ys.length = found.length := (Paired.len hpf).symm
          have hl5 := e5 _ _ (upd_same (H := H3) (a := l) (o := .lst bs))
          refine ⟨F, ys, _, rfl, rfl, hys5, (by rw [sizeLine_eq]; omega), ws, found ++ [(p, k)], _, _, _, _, rfl, ⟨same_updO (S.e.trans e45) hF0, ⟨vs, (upd_ne WF).trans (e45 _ _ hvs), Paired.mapP hpw fun _ _ z => (z.keep (tkeep_same e45) (Same.fkeep e45)).keep k6 f6⟩, ⟨_, upd_same, ?_⟩⟩, U.kind he⟩
          refine paired_snoc (Paired.mapP hpf fun _ _ z => (z.keep (tkeep_same e45) (fun l xs _ _ h => e45 _ _ h)).keep k6 (fun l xs _ h2 h => (upd_ne h2).trans h)) ?_
          exact ⟨u, l, bs, rfl, k6 _ _ (SqT.of upd_same), (upd_ne hlF).trans hl5, prs_tkeep k6 (prs_tkeep (tkeep_same e45) hb2), hlW, hlF⟩
        | sq a cs =>
          obtain ⟨w1, w2, w3⟩ := U.wp _ (List.mem_of_getElem? he)
          have hnd : (cs.map Prod.fst).Nodup ∧ cs.length ≤ 200 := by
            have w3' : GoodT (12 - p.length) (.sq a cs) := w3
            generalize 12 - p.length = n at w3'
            cases w3' with
            | sq _ h1 h2 _ => exact ⟨h1, h2⟩
          have w1' : p.length ≤ 12 := w1
          have hwl4 : ws.length ≤ 4000 := by
            have h4 := pends_len (ws.drop i)
            rw [List.length_drop] at h4
            have := U.sz
            have := U.le
            omega
          cases hs3 with
          | @sq a' d _ od kvs _ fv hsq hd hkl hkv hkt =>
          refine ⟨_, rfl, a', _, _, _, rfl, rfl, hsq, atI0, rfl, _, rfl, itN (fun z => absurd (V.str.inj z) (by decide)) ?_⟩
          refine ⟨_, rfl, a', _, _, _, rfl, rfl, hsq, atI2, d, od, rfl, .inl ⟨kvs, hd, ?_⟩⟩
          refine for_it walk_keys (fun j σ H4 => But Wl H3 H4 ∧ ∃ (vs' : List V) (x6 : Option V), σ = [some v, some (.ref Wl), some (.ref F), some (.int (i : Int)), some (.ref eb), some (.ref a'), x6] ∧ H4 Wl = some (.lst vs') ∧ Paired (EntAt K H4) (ws ++ (cs.take j).map fun q => (p ++ [(a, q.1)], q.2)) vs')
            ⟨fun _ _ h _ => h, vs, x6, rfl, hvs, by rw [List.take_zero, List.map_nil, List.append_nil]; exact hpw⟩ (fun j σ H4 _ z => but_fk z.1 hvs _ _ _ hd) ?_ ?_
          · rintro j y σ H4' H4 hj ⟨b4, vs', x6, rfl, hvs4, hpw4⟩ ⟨rfl, key, vy, hky, rfl⟩
            have hjc : j < cs.length := by omega
            obtain ⟨q, hq⟩ : ∃ q, cs[j]? = some q := ⟨_, List.getElem?_eq_getElem hjc⟩
            have hkq := hkv j q hq
            rw [hky] at hkq
            cases hkq
            have htq := hkt j q hq
            have t4 : TKeep K H3 H4 := b4.tkeep hvs
            have f4 := but_fk b4 hvs
            have hd4 := f4 _ _ _ hd
            have hsq4 := t4 _ _ hsq
            have hval : valV kvs (Sum.inl q.1) = some (fv j) := by
              have hmem : (Sum.inl q.1 : Key) ∈ kvs.map Prod.fst := List.mem_map.mpr ⟨_, List.mem_of_getElem? hky, rfl⟩
              cases hz : valV kvs (Sum.inl q.1) with
              | none => exact absurd hmem (valV_not hz)
              | some z =>
                unfold valV at hz
                obtain ⟨kv, hkv1, hkv2⟩ := Option.map_eq_some_iff.mp hz
                have h1 := of_decide_eq_true (List.find?_some (p := fun kv : Key × V => decide (kv.1 = Sum.inl q.1)) hkv1)
                obtain ⟨m, hm, em⟩ := List.getElem_of_mem (List.mem_of_find?_eq_some hkv1)
                obtain ⟨q', hq'⟩ : ∃ q', cs[m]? = some q' := ⟨_, List.getElem?_eq_getElem (by omega)⟩
                have h2 := hkv m q' hq'
                rw [List.getElem?_eq_getElem hm, em] at h2
                have h3 : kv = (Sum.inl q'.1, fv m) := Option.some.inj h2
                rw [h3] at h1 hkv2
                have h4 : q'.1 = q.1 := Sum.inl.inj h1
                have hmj : m = j := by
                  obtain ⟨b1, c1⟩ := List.getElem?_eq_some_iff.mp hq'
                  obtain ⟨b2, c2⟩ := List.getElem?_eq_some_iff.mp hq
                  have hp := List.pairwise_iff_getElem.mp (List.nodup_iff_pairwise_ne.mp hnd.1)
                  rcases Nat.lt_trichotomy m j with h | h | h
                  · exact absurd (by rw [List.getElem_map, List.getElem_map, c1, c2]; exact h4) (hp m j (by rw [List.length_map]; exact b1) (by rw [List.length_map]; exact b2) h)
                  · exact h
                  · exact absurd (by rw [List.getElem_map, List.getElem_map, c1, c2]; exact h4.symm) (hp j m (by rw [List.length_map]; exact b2) (by rw [List.length_map]; exact b1) h)
                rw [← hkv2, hmj]
            have hvl4 := Paired.len hpw4
            rw [List.length_append, List.length_map, List.length_take] at hvl4
            have hb14 := t4 _ _ hb1
            have hbl := dpAll_len hb2
            rw [List.length_map] at hbl
            have htk : cs.take (j + 1) = cs.take j ++ [q] := by rw [List.take_succ, hq]; rfl
            refine ⟨_, rfl, .inl ⟨rfl, _, SqL.of hvs4⟩, _, rfl, _, rfl, a', _, _, _, rfl, rfl, hsq4, atI1, _, rfl, (by show 2 ≤ sizeLine; decide), fun u1 hu1 => ⟨(by show 1 ≤ sizeLine; decide), fun u2 hu2 => ?_⟩⟩
            have g1 := same_new (o := .tup [.int a, kV (Sum.inl q.1)]) hu1
            have g2 := same_new (o := .tup [.ref u1]) hu2
            have g12 := g1.trans g2
            have hu1' := g2 _ _ (upd_same (H := H4) (a := u1) (o := .tup [.int a, kV (Sum.inl q.1)]))
            have hpr1 : Dp K (upd (upd H4 u1 (.tup [.int a, kV (Sum.inl q.1)])) u2 (.tup [.ref u1])) (.ref u1) (prD (a, q.1)) := pr_dp (SqT.of hu1')
            refine ⟨eb, u2, bs, [.ref u1], rfl, rfl, same_sqT g12 hb14, SqT.of upd_same, (by rw [List.length_singleton, sizeLine_eq]; omega), fun hbs => ?_, (fun _ z => by cases z), fun hbs _ nb hnb0 => ?_⟩
            · have hp0 : p = [] := List.length_eq_zero_iff.mp (by rw [← hbl, hbs]; rfl)
              have hnb : Dp K (upd (upd H4 u1 (.tup [.int a, kV (Sum.inl q.1)])) u2 (.tup [.ref u1])) (.ref u2) (.tuple ((p ++ [(a, q.1)]).map prD)) := by
                rw [hp0]
                exact .tup (SqT.of upd_same) (.cons hpr1 .nil)
              generalize upd (upd H4 u1 (.tup [.int a, kV (Sum.inl q.1)])) u2 (.tup [.ref u1]) = H5 at g12 hnb ⊢
              generalize u2 = nb at hnb ⊢
              have hvs5 := g12 _ _ hvs4
              refine ⟨_, rfl, a', _, _, _, rfl, rfl, same_sqT g12 hsq4, atI2, _, rfl, d, _, rfl, .inl ⟨kvs, Sum.inl q.1, .inr ⟨od, g12 _ _ hd4⟩, rfl, hval.symm⟩, (by show 2 ≤ sizeLine; decide), fun u3 hu3 => ?_⟩
              have g5 := same_new (o := .tup [.ref nb, fv j]) hu3
              have k6 : TKeep K (upd H5 u3 (.tup [.ref nb, fv j])) (upd (upd H5 u3 (.tup [.ref nb, fv j])) Wl (.lst (vs' ++ [.ref u3]))) := lst_tkeep (g5 _ _ hvs5)
              have f6 : FKeep (upd H5 u3 (.tup [.ref nb, fv j])) (upd (upd H5 u3 (.tup [.ref nb, fv j])) Wl (.lst (vs' ++ [.ref u3]))) := fkeep_upd (g5 _ _ hvs5) (fun _ _ z => by cases z)
              have g15 := g12.trans g5
              refine ⟨Wl, vs', _, rfl, rfl, g5 _ _ hvs5, (by rw [sizeLine_eq]; omega), (b4.trans g15.but).trans but_upd, _, _, rfl, upd_same, ?_⟩
              rw [htk, List.map_append, ← List.append_assoc]
              refine paired_snoc (Paired.mapP hpw4 fun _ _ z => (z.keep (tkeep_same g15) (Same.fkeep g15)).keep k6 f6) ?_
              exact EntAt.keep ⟨u3, nb, fv j, rfl, SqT.of upd_same, dp_same g5 _ _ hnb, (htq.keep t4 f4).keep (tkeep_same g15) (Same.fkeep g15)⟩ k6 f6
            · have g3 := same_new (o := .tup (bs ++ [.ref u1])) hnb0
              have hnb : Dp K (upd (upd (upd H4 u1 (.tup [.int a, kV (Sum.inl q.1)])) u2 (.tup [.ref u1])) nb (.tup (bs ++ [.ref u1]))) (.ref nb) (.tuple ((p ++ [(a, q.1)]).map prD)) := by
                rw [List.map_append]
                exact .tup (SqT.of upd_same) (dpAll_app (dpAll_same (g12.trans g3) _ _ (prs_tkeep t4 hb2)) (dpAll_one (dp_same g3 _ _ hpr1)))
              have g12 := g12.trans g3
              generalize upd (upd (upd H4 u1 (.tup [.int a, kV (Sum.inl q.1)])) u2 (.tup [.ref u1])) nb (.tup (bs ++ [.ref u1])) = H5 at g12 hnb ⊢
              have hvs5 := g12 _ _ hvs4
              refine ⟨_, rfl, a', _, _, _, rfl, rfl, same_sqT g12 hsq4, atI2, _, rfl, d, _, rfl, .inl ⟨kvs, Sum.inl q.1, .inr ⟨od, g12 _ _ hd4⟩, rfl, hval.symm⟩, (by show 2 ≤ sizeLine; decide), fun u3 hu3 => ?_⟩
              have g5 := same_new (o := .tup [.ref nb, fv j]) hu3
              have k6 : TKeep K (upd H5 u3 (.tup [.ref nb, fv j])) (upd (upd H5 u3 (.tup [.ref nb, fv j])) Wl (.lst (vs' ++ [.ref u3]))) := lst_tkeep (g5 _ _ hvs5)
              have f6 : FKeep (upd H5 u3 (.tup [.ref nb, fv j])) (upd (upd H5 u3 (.tup [.ref nb, fv j])) Wl (.lst (vs' ++ [.ref u3]))) := fkeep_upd (g5 _ _ hvs5) (fun _ _ z => by cases z)
              have g15 := g12.trans g5
              refine ⟨Wl, vs', _, rfl, rfl, g5 _ _ hvs5, (by rw [sizeLine_eq]; omega), (b4.trans g15.but).trans but_upd, _, _, rfl, upd_same, ?_⟩
              rw [htk, List.map_append, ← List.append_assoc]
              refine paired_snoc (Paired.mapP hpw4 fun _ _ z => (z.keep (tkeep_same g15) (Same.fkeep g15)).keep k6 f6) ?_
              exact EntAt.keep ⟨u3, nb, fv j, rfl, SqT.of upd_same, dp_same g5 _ _ hnb, (htq.keep t4 f4).keep (tkeep_same g15) (Same.fkeep g15)⟩ k6 f6
          · rintro σ H4 ⟨b4, vs', x6, rfl, hvs4, hpw4⟩
            rw [hkl, List.take_length] at hpw4
            have t4 : TKeep K H3 H4 := b4.tkeep hvs
            refine ⟨_, found, _, _, _, _, rfl, ⟨b4.same S.e hWl0, ⟨vs', hvs4, hpw4⟩, ⟨ys, b4 _ _ hys WF.symm, Paired.mapP hpf fun _ _ z => z.keep t4 (fun l xs h1 _ h => b4 _ _ h h1)⟩⟩, U.sq he⟩
      · refine itD (by show ((vs.length : Nat) : Int) ≤ (i : Int); omega) ?_
        exact ⟨_, rfl, hend H3 i ws found S U (.inl (by omega))⟩
    · rintro σ H3 ⟨ws, found, x3, x4, x5, x6, rfl, S, U⟩
      exact ⟨_, rfl, hend H3 _ ws found S U (.inr (Nat.le_refl _))⟩
end
end L2.Jw
set_option Elab.async false
set_option linter.all false
set_option maxRecDepth 100000
set_option maxHeartbeats 4000000
namespace L2.Jw
open PySem PySem.Spec PyProof.Rows
section
variable {P : Program} {w : World} {K : PySem.W.Frag} {mg : Str → Option Value} {base : Heap} {c : Cs}
theorem prs_dp_tk {H H' : Hp} (k : TKeep K H H') {v : V} {ps : List (Int × Int)} (h : Dp K H v (.tuple (ps.map prD))) : Dp K H' v (.tuple (ps.map prD)) := by
  obtain ⟨b, xs, rfl, h1, h2⟩ := dp_tup h
  exact .tup (k _ _ h1) (prs_tkeep k h2)
theorem TurnAt.kx {H H' : Hp} {a : Addr} {N per : Int} {rows : List (Int × Int)} (h : TurnAt K c H a N rows per) (e : KX H H') : TurnAt K c H' a N rows per := by
  obtain ⟨dx, q, h1, h2⟩ := h.ob
  exact ⟨dx, q, e _ _ h1 (fun x z => by cases z), prs_dp_tk e.tk h2⟩
theorem TurnsAt.kx {H H' : Hp} {N : Int} {d : PartD} {kvs : List (Key × V)} (h : TurnsAt K c H N d kvs) (e : KX H H') : TurnsAt K c H' N d kvs := by
  obtain ⟨t, h1, h2⟩ := h
  refine ⟨t, h1.kx e, ?_⟩
  cases hp : d.push with
  | none => rw [hp] at h2; exact h2
  | some p =>
    rw [hp] at h2
    obtain ⟨t2, r2, g1, g2⟩ := h2
    exact ⟨t2, r2, g1.kx e, g2⟩
theorem PartAt.kx {H H' : Hp} {a : Addr} {N : Int} {d : PartD} (h : PartAt K c H a N d) (e : KX H H') : PartAt K c H' a N d := by
  obtain ⟨dx, q, td, kvs, h1, h2, h3, h4⟩ := h.ob
  exact ⟨dx, q, td, kvs, e _ _ h1 (fun x z => by cases z), e.tk _ _ h2, e _ _ h3 (fun x z => by cases z), h4.kx e⟩
theorem PartsAt.kx {H H' : Hp} {pa : Addr} {N : Int} {pds : List PartD} (h : PartsAt K c H pa N pds) (e : KX H H') : PartsAt K c H' pa N pds := by
  obtain ⟨vs, h1, h2⟩ := h.ob
  exact ⟨vs, e _ _ h1 (fun x z => by cases z), Paired.mapP h2 fun _ _ ⟨a, b, d⟩ => ⟨a, b, d.kx e⟩⟩
end
end L2.Jw
set_option Elab.async false
set_option linter.all false
set_option maxRecDepth 100000
set_option maxHeartbeats 4000000
namespace L2.Jw
open PySem PySem.Spec PyProof.Rows
/-! ### a smaller most -/
section
variable {W : Wd} {tb : Tb} {st : Bool} {ks : List Lot}
theorem stepV_cut {n k : Int} {wv : Lot → Option Int} {l : Lot} (h : k < n) : stepV W tb st ks n wv l = some k ↔ wv l = some k := by
  unfold stepV
  cases hv : wv l with
  | some j => exact Iff.rfl
  | none =>
    show (if _ then _ else _) = some k ↔ none = some k
    split
    · constructor
      · intro z
        have := Option.some.inj z
        omega
      · intro z; cases z
    · exact Iff.rfl
theorem weigh_lo {m : Nat} {l : Lot} {k : Int} (h : weighF W tb st ks m l = some k) : k ≤ m := by
  induction m with
  | zero =>
    have h' : (if l ∈ ks ∧ toldF W st l.2 = true then some (0 : Int) else none) = some k := h
    split at h'
    · have := Option.some.inj h'
      omega
    · cases h'
  | succ m ih =>
    have h' : stepV W tb st ks ((m + 1 : Nat) : Int) (weighF W tb st ks m) l = some k := h
    unfold stepV at h'
    cases hv : weighF W tb st ks m l with
    | some j =>
      rw [hv] at h'
      have e := Option.some.inj h'
      have := ih (by rw [hv, e])
      omega
    | none =>
      rw [hv] at h'
      have h2 : (if l ∈ ks ∧ leastF (weighF W tb st ks m) (childF W tb st l) ((m + 1 : Nat) : Int) = ((m + 1 : Nat) : Int) then some ((m + 1 : Nat) : Int) else none) = some k := h'
      split at h2
      · have := Option.some.inj h2
        omega
      · cases h2
theorem weigh_cut {m : Nat} (d : Nat) {l : Lot} {k : Int} : weighF W tb st ks m l = some k ↔ weighF W tb st ks (m + d) l = some k ∧ k ≤ m := by
  induction d with
  | zero => exact ⟨fun h => ⟨h, weigh_lo h⟩, fun h => h.1⟩
  | succ d ih =>
    rw [ih]
    constructor
    · rintro ⟨h1, h2⟩
      exact ⟨(stepV_cut (n := ((m + d + 1 : Nat) : Int)) (by omega)).mpr h1, h2⟩
    · rintro ⟨h1, h2⟩
      exact ⟨(stepV_cut (n := ((m + d + 1 : Nat) : Int)) (by omega)).mp h1, h2⟩
theorem getD_cut {m : Nat} (hm : m ≤ 12) {l : Lot} : (weighF W tb st ks m l).getD (m + 1) = min ((weighF W tb st ks 12 l).getD 13) (m + 1) := by
  obtain ⟨d, hd⟩ : ∃ d, 12 = m + d := ⟨12 - m, by omega⟩
  have hc := fun k => weigh_cut (W := W) (tb := tb) (st := st) (ks := ks) (m := m) d (l := l) (k := k)
  rw [← hd] at hc
  cases h12 : weighF W tb st ks 12 l with
  | none =>
    have hn : weighF W tb st ks m l = none := by
      cases hv : weighF W tb st ks m l with
      | none => rfl
      | some k => have := (hc k).mp hv; rw [h12] at this; cases this.1
    rw [hn]
    show (m : Int) + 1 = min 13 ((m : Int) + 1)
    omega
  | some k =>
    by_cases hk : k ≤ m
    · rw [(hc k).mpr ⟨h12, hk⟩]
      show k = min k ((m : Int) + 1)
      omega
    · have hn : weighF W tb st ks m l = none := by
        cases hv : weighF W tb st ks m l with
        | none => rfl
        | some j =>
          have h1 := (hc j).mp hv
          rw [h12] at h1
          have := Option.some.inj h1.1
          omega
      rw [hn]
      show (m : Int) + 1 = min k ((m : Int) + 1)
      omega
theorem maxL_min {c : Int} (h0 : 0 ≤ c) : ∀ {l : List Int}, maxL (l.map fun x => min x c) = min (maxL l) c
  | [] => by show (0 : Int) = min 0 c; omega
  | [x] => rfl
  | x :: y :: l => by
    have ih := maxL_min h0 (l := y :: l)
    show max (min x c) (maxL ((y :: l).map fun x => min x c)) = min (max x (maxL (y :: l))) c
    rw [ih]
    omega
theorem minL_min {c : Int} : ∀ {l : List Int}, l ≠ [] → minL (l.map fun x => min x c) = min (minL l) c
  | [], h => absurd rfl h
  | [x], _ => rfl
  | x :: y :: l, _ => by
    have ih := minL_min (c := c) (l := y :: l) (by simp)
    show min (min x c) (minL ((y :: l).map fun x => min x c)) = min (min x (minL (y :: l))) c
    rw [ih]
    omega
theorem worst_cut {m : Nat} (hm : m ≤ 12) (lots : List (Int × Lot)) : worstF (weighF W tb st ks m) lots (m + 1) = min (worstF (weighF W tb st ks 12) lots 13) (m + 1) := by
  unfold worstF
  rw [← maxL_min (by omega), List.map_map]
  congr 1
  exact List.map_congr_left fun q _ => getD_cut hm
theorem least_cut {m : Nat} (hm : m ≤ 12) (b : Brs) : leastF (weighF W tb st ks m) b (m + 1) = min (leastF (weighF W tb st ks 12) b 13) (m + 2) := by
  unfold leastF
  by_cases hb : b = []
  · rw [if_pos hb, if_pos hb]
    omega
  · rw [if_neg hb, if_neg hb, ← minL_min (fun z => hb (List.map_eq_nil_iff.mp z)), List.map_map]
    congr 1
    refine List.map_congr_left fun x _ => ?_
    show 1 + worstF (weighF W tb st ks m) x.2 (m + 1) = min (1 + worstF (weighF W tb st ks 12) x.2 13) (m + 2)
    rw [worst_cut hm]
    omega
/-- the number at a smaller most: the same, or none where it is more -/
theorem num_cut {m : Nat} (hm : m ≤ 12) (b : Brs) (bt : Bool) : (numF (weighF W tb st ks m) b bt m).getD 99 = if (numF (weighF W tb st ks 12) b bt 12).getD 99 > m then 99 else (numF (weighF W tb st ks 12) b bt 12).getD 99 := by
  unfold numF
  by_cases hbt : bt = true
  · rw [if_pos hbt, if_pos hbt]
    show (0 : Int) = if (0 : Int) > m then 99 else 0
    rw [if_neg (by omega)]
  · rw [if_neg hbt, if_neg hbt, least_cut hm, show (12 : Int) + 1 = 13 from rfl]
    by_cases h12 : leastF (weighF W tb st ks 12) b 13 ≤ 12
    · rw [if_pos h12]
      show _ = if leastF (weighF W tb st ks 12) b 13 > m then 99 else leastF (weighF W tb st ks 12) b 13
      by_cases hk : leastF (weighF W tb st ks 12) b 13 ≤ m
      · rw [if_pos (by omega), if_neg (by omega)]
        show min _ _ = _
        omega
      · rw [if_neg (by omega), if_pos (by omega)]
        rfl
    · rw [if_neg h12, if_neg (by omega)]
      show (99 : Int) = if (99 : Int) > m then 99 else 99
      rw [if_pos (by omega)]
end
end L2.Jw
set_option Elab.async false
set_option linter.all false
set_option maxRecDepth 100000
set_option maxHeartbeats 4000000
namespace L2.Jw
open PySem PySem.Spec PyProof.Rows
/-! ### Win: told within n squeezes -/
inductive Win (W : Wd) (tb : Tb) (st : Bool) : Nat → Str → List Pr → Prop
  | told {n : Nat} {s : Str} {ps : List Pr} : toldF W st ps = true → Win W tb st n s ps
  | step {n : Nat} {s : Str} {ps : List Pr} {r : Rl} : r ∈ rulesF tb s → (∀ v ∈ widF W ps r.1, Win W tb st n r.2 (canon (behF W ps r.1 v))) → Win W tb st (n + 1) s ps
theorem Win.succ {W : Wd} {tb : Tb} {st : Bool} {n : Nat} {s : Str} {ps : List Pr} (h : Win W tb st n s ps) : Win W tb st (n + 1) s ps := by
  induction h with
  | told h => exact .told h
  | step hr _ ih => exact .step hr ih
theorem Win.le {W : Wd} {tb : Tb} {st : Bool} {n m : Nat} {s : Str} {ps : List Pr} (h : Win W tb st n s ps) (hm : n ≤ m) : Win W tb st m s ps := by
  obtain ⟨d, rfl⟩ : ∃ d, m = n + d := ⟨m - n, by omega⟩
  clear hm
  induction d with
  | zero => exact h
  | succ d ih => exact ih.succ
end L2.Jw
set_option Elab.async false
set_option linter.all false
set_option maxRecDepth 100000
set_option maxHeartbeats 4000000
namespace L2.Jw
open PySem PySem.Spec PyProof.Rows
/-! ### an easier world -/
structure Emb (W W' : Wd) (f : Int → Int) : Prop where
  n : W'.N = W.N
  kd : ∀ p, inW W' p → kdOf W' p.1 = kdOf W (f p.1)
  inj : ∀ p q, inW W' p → inW W' q → f p.1 = f q.1 → p.1 = q.1
theorem toldF_iff {W : Wd} {st : Bool} {p0 : Pr} {ps : List Pr} : toldF W st (p0 :: ps) = true ↔ ∀ p ∈ p0 :: ps, p.1 = p0.1 ∧ (st = true → (p.2 - p0.2) % (kdOf W p0.1).span = 0) := by
  unfold toldF
  rw [List.all_eq_true]
  refine forall_congr' fun p => forall_congr' fun _ => ?_
  show (decide (p.1 = p0.1) && (!st || decide ((p.2 - p0.2) % (kdOf W p0.1).span = 0))) = true ↔ _
  cases st <;> simp
theorem Emb.sq {W W' : Wd} {f : Int → Int} (E : Emb W W' f) {p : Pr} (hp : inW W' p) (t : Int) : sqF W (f p.1, p.2) t = ((f p.1, (sqF W' p t).1.2), (sqF W' p t).2) := by
  unfold sqF landF
  show ((f p.1, _), _) = ((f p.1, _), _)
  rw [E.kd p hp, E.n]
theorem Win.mono {W W' : Wd} {f : Int → Int} (E : Emb W W' f) (O' : WOk W') {tb tb' : Tb} (hr : ∀ s r, r ∈ rulesF tb s → r ∈ rulesF tb' s) {st st' : Bool} (hst : st' = true → st = true) {n : Nat} {s : Str} {ps : List Pr} (h : Win W tb st n s ps) :
    ∀ {ps' : List Pr}, ps' ≠ [] → (∀ p ∈ ps', inW W' p ∧ (f p.1, p.2) ∈ ps) → Win W' tb' st' n s ps' := by
  induction h with
  | @told n s ps h =>
    intro ps' hne hin
    refine .told ?_
    obtain ⟨q0, qs, rfl⟩ := List.exists_cons_of_ne_nil hne
    obtain ⟨p0, ps1, rfl⟩ := List.exists_cons_of_ne_nil (l := ps) (fun z => by have := (hin q0 List.mem_cons_self).2; rw [z] at this; cases this)
    have h1 := toldF_iff.mp h
    obtain ⟨hq0, hm0⟩ := hin q0 List.mem_cons_self
    refine toldF_iff.mpr fun p hp => ?_
    obtain ⟨hpi, hpm⟩ := hin p hp
    obtain ⟨a1, a2⟩ := h1 _ hm0
    obtain ⟨b1, b2⟩ := h1 _ hpm
    refine ⟨E.inj p q0 hpi hq0 (b1.trans a1.symm), fun hs => ?_⟩
    have a3 := a2 (hst hs)
    have b3 := b2 (hst hs)
    rw [E.kd q0 hq0, show f q0.1 = p0.1 from a1]
    have e : p.2 - q0.2 = (p.2 - p0.2) - (q0.2 - p0.2) := by omega
    rw [e]
    have a4 : (q0.2 - p0.2) % (kdOf W p0.1).span = 0 := a3
    have b4 : (p.2 - p0.2) % (kdOf W p0.1).span = 0 := b3
    exact Int.emod_eq_zero_of_dvd (Int.dvd_sub (Int.dvd_of_emod_eq_zero b4) (Int.dvd_of_emod_eq_zero a4))
  | @step n s ps r hrr _ ih =>
    intro ps' hne hin
    refine .step (hr _ _ hrr) fun v hv => ?_
    obtain ⟨q, hq, e⟩ := mem_widF.mp hv
    have hq2 := hin q hq
    refine ih v (mem_widF.mpr ⟨_, hq2.2, by rw [E.sq hq2.1]; exact e⟩) (fun z => ?_) fun p hp => ?_
    · have : (sqF W' q r.1).1 ∈ canon (behF W' ps' r.1 v) := mem_behF.mpr ⟨q, hq, e, rfl⟩
      rw [z] at this
      cases this
    · obtain ⟨p1, h1, h2, rfl⟩ := mem_behF.mp hp
      obtain ⟨h3, h4⟩ := hin p1 h1
      refine ⟨(land_in O' h3 r.1).1, mem_behF.mpr ⟨_, h4, by rw [E.sq h3]; exact h2, by rw [E.sq h3]; rfl⟩⟩
end L2.Jw
set_option Elab.async false
set_option linter.all false
set_option maxRecDepth 100000
set_option maxHeartbeats 4000000
namespace L2.Jw
open PySem PySem.Spec PyProof.Rows
/-! ### the worth of a lot is the least n with Win n -/
section
variable {W : Wd} {tb : Tb} {st : Bool}
/-- with M squeezes more than n a squeeze wins: what leastF says -/
theorem least_iff {wv : Lot → Option Int} (hlo : ∀ l k, wv l = some k → 0 ≤ k) {s : Str} {ps : List Pr} {M n : Nat} (hn : n ≤ M) (hne : ps ≠ []) :
    leastF wv (brF W tb s ps) M ≤ n ↔ ∃ r ∈ rulesF tb s, ∀ v ∈ widF W ps r.1, ∃ k, wv (r.2, canon (behF W ps r.1 v)) = some k ∧ k + 1 ≤ n := by
  have hlots : ∀ r : Rl, worstF wv ((partF W ps r.1).map fun q => (q.1, (r.2, q.2))) M + 1 ≤ n ↔ ∀ v ∈ widF W ps r.1, ∃ k, wv (r.2, canon (behF W ps r.1 v)) = some k ∧ k + 1 ≤ n := fun r => by
    have hmap : (((partF W ps r.1).map fun q => (q.1, (r.2, q.2))).map fun q : Int × Lot => (wv q.2).getD (M : Int)) = (widF W ps r.1).map fun v => (wv (r.2, canon (behF W ps r.1 v))).getD (M : Int) := by
      unfold partF
      rw [List.map_map, List.map_map]
      rfl
    unfold worstF
    rw [hmap]
    constructor
    · intro h v hv
      have h1 := maxL_ge (List.mem_map.mpr ⟨v, hv, rfl⟩ : (wv (r.2, canon (behF W ps r.1 v))).getD (M : Int) ∈ (widF W ps r.1).map fun v => (wv (r.2, canon (behF W ps r.1 v))).getD (M : Int))
      cases hw : wv (r.2, canon (behF W ps r.1 v)) with
      | some k =>
        rw [hw] at h1
        have h2 : k ≤ _ := h1
        exact ⟨k, rfl, by omega⟩
      | none =>
        rw [hw] at h1
        have h2 : (M : Int) ≤ _ := h1
        omega
    · intro h
      obtain ⟨p, ps', rfl⟩ := List.exists_cons_of_ne_nil hne
      have hz : (widF W (p :: ps') r.1).map (fun v => (wv (r.2, canon (behF W (p :: ps') r.1 v))).getD (M : Int)) ≠ [] := fun z => by
        have h1 : (sqF W p r.1).2 ∈ widF W (p :: ps') r.1 := mem_widF.mpr ⟨p, List.mem_cons_self, rfl⟩
        rw [List.map_eq_nil_iff.mp z] at h1
        cases h1
      obtain ⟨v, hv, e⟩ := List.mem_map.mp (maxL_mem hz)
      obtain ⟨k, hk, hk2⟩ := h v hv
      rw [← e, hk]
      exact hk2
  unfold leastF
  by_cases hb : brF W tb s ps = []
  · rw [if_pos hb]
    have hr0 : rulesF tb s = [] := by
      unfold brF at hb
      exact List.map_eq_nil_iff.mp hb
    rw [hr0]
    constructor
    · intro h; omega
    · rintro ⟨r, hr, _⟩; cases hr
  · rw [if_neg hb]
    constructor
    · intro h
      obtain ⟨x, hx, e⟩ := List.mem_map.mp (minL_mem (l := (brF W tb s ps).map fun x => 1 + worstF wv x.2 M) (fun z => hb (List.map_eq_nil_iff.mp z)))
      unfold brF at hx
      obtain ⟨r, hr, rfl⟩ := List.mem_map.mp hx
      refine ⟨r, hr, (hlots r).mp ?_⟩
      have e' : 1 + worstF wv ((partF W ps r.1).map fun q => (q.1, (r.2, q.2))) M = _ := e
      omega
    · rintro ⟨r, hr, h⟩
      have h1 := (hlots r).mpr h
      have h2 := minL_le (List.mem_map.mpr ⟨(r.1, (partF W ps r.1).map fun q => (q.1, (r.2, q.2))), (by unfold brF; exact List.mem_map.mpr ⟨r, hr, rfl⟩), rfl⟩ : 1 + worstF wv ((partF W ps r.1).map fun q => (q.1, (r.2, q.2))) M ∈ (brF W tb s ps).map fun x => 1 + worstF wv x.2 M)
      omega
end
end L2.Jw
set_option Elab.async false
set_option linter.all false
set_option maxRecDepth 100000
set_option maxHeartbeats 4000000
namespace L2.Jw
open PySem PySem.Spec PyProof.Rows
section
variable {W : Wd} {tb : Tb} {st : Bool} {ks : List Lot}
theorem weigh_lo0 {m : Nat} {l : Lot} {k : Int} (hks : ∀ l, l ∈ ks ↔ Reach W tb st l) (hm : m ≤ 12) (h : weighF W tb st ks m l = some k) : 0 ≤ k := ((weigh_ok' hks hm).1 l k h).1
theorem weigh_win (O : WOk W) (Tw : TbWf tb) (hks : ∀ l, l ∈ ks ↔ Reach W tb st l) : ∀ {n : Nat}, n ≤ 12 → ∀ {l : Lot}, Reach W tb st l → ((∃ k, weighF W tb st ks n l = some k) ↔ Win W tb st n l.1 l.2)
  | 0, _, l, hr => by
    show (∃ k, (if l ∈ ks ∧ toldF W st l.2 = true then some (0 : Int) else none) = some k) ↔ _
    constructor
    · rintro ⟨k, h⟩
      split at h
      · rename_i hc; exact .told hc.2
      · cases h
    · intro h
      cases h with
      | told h => exact ⟨0, if_pos ⟨(hks l).mpr hr, h⟩⟩
  | n + 1, hn, l, hr => by
    have ih := @weigh_win O Tw hks n (by omega)
    have hok := reach_ok O Tw hr
    by_cases ht : toldF W st l.2 = true
    · refine ⟨fun _ => .told ht, fun _ => ?_⟩
      obtain ⟨k, hk⟩ := (ih hr).mpr (.told ht)
      exact ⟨k, stepV_old hk⟩
    · have hch : childF W tb st l = brF W tb l.1 l.2 := by unfold childF; rw [if_neg ht]
      have hkid : ∀ {r : Rl} {v : Int}, r ∈ rulesF tb l.1 → v ∈ widF W l.2 r.1 → Reach W tb st (r.2, canon (behF W l.2 r.1 v)) := fun hr' hv => .step hr (by rw [hch]; exact mem_lotsOf_brF.mpr ⟨_, hr', _, hv, rfl⟩)
      have hwin : Win W tb st (n + 1) l.1 l.2 ↔ leastF (weighF W tb st ks n) (childF W tb st l) ((n + 1 : Nat) : Int) ≤ ((n + 1 : Nat) : Int) := by
        rw [hch, least_iff (fun l k h => weigh_lo0 hks (by omega) h) (Nat.le_refl _) hok.ne]
        constructor
        · intro h
          cases h with
          | told h => exact absurd h ht
          | step h1 h2 =>
            refine ⟨_, h1, fun v hv => ?_⟩
            obtain ⟨k, hk⟩ := (ih (hkid h1 hv)).mpr (h2 v hv)
            have := weigh_lo hk
            exact ⟨k, hk, by omega⟩
        · rintro ⟨r, h1, h2⟩
          refine .step h1 fun v hv => ?_
          obtain ⟨k, hk, _⟩ := h2 v hv
          exact (ih (hkid h1 hv)).mp ⟨k, hk⟩
      constructor
      · rintro ⟨k, hk⟩
        cases hv : weighF W tb st ks n l with
        | some j => exact ((ih hr).mp ⟨j, hv⟩).succ
        | none =>
          have h' : stepV W tb st ks ((n + 1 : Nat) : Int) (weighF W tb st ks n) l = some k := hk
          unfold stepV at h'
          rw [hv] at h'
          have h2 : (if l ∈ ks ∧ leastF (weighF W tb st ks n) (childF W tb st l) ((n + 1 : Nat) : Int) = ((n + 1 : Nat) : Int) then some ((n + 1 : Nat) : Int) else none) = some k := h'
          split at h2
          · rename_i hc; exact hwin.mpr (by rw [hc.2]; exact Int.le_refl _)
          · cases h2
      · intro h
        cases hv : weighF W tb st ks n l with
        | some j => exact ⟨j, stepV_old hv⟩
        | none =>
          have hle := hwin.mp h
          have hge : ¬ leastF (weighF W tb st ks n) (childF W tb st l) ((n + 1 : Nat) : Int) ≤ (n : Int) := fun z => by
            rw [hch, least_iff (fun l k h => weigh_lo0 hks (by omega) h) (Nat.le_succ n) hok.ne] at z
            obtain ⟨r, h1, h2⟩ := z
            have : Win W tb st n l.1 l.2 := by
              cases n with
              | zero =>
                obtain ⟨p, ps', e⟩ := List.exists_cons_of_ne_nil hok.ne
                obtain ⟨k, hk, hk2⟩ := h2 _ (mem_widF.mpr ⟨p, by rw [e]; exact List.mem_cons_self, rfl⟩)
                have := weigh_lo0 hks (by omega) hk
                omega
              | succ m =>
                refine .step h1 fun v hv => ?_
                obtain ⟨k, hk, hk2⟩ := h2 v hv
                have hcut := (weigh_cut (W := W) (tb := tb) (st := st) (ks := ks) (m := m) 1).mpr ⟨hk, by omega⟩
                exact (weigh_win O Tw hks (by omega) (hkid h1 hv)).mp ⟨k, hcut⟩
            obtain ⟨k, hk⟩ := (ih hr).mpr this
            rw [hv] at hk
            cases hk
          refine ⟨((n + 1 : Nat) : Int), ?_⟩
          show stepV W tb st ks ((n + 1 : Nat) : Int) (weighF W tb st ks n) l = _
          unfold stepV
          rw [hv]
          exact if_pos ⟨(hks l).mpr hr, by omega⟩
end
end L2.Jw
set_option Elab.async false
set_option linter.all false
set_option maxRecDepth 100000
set_option maxHeartbeats 4000000
namespace L2.Jw
open PySem PySem.Spec PyProof.Rows
section
variable {W : Wd} {tb : Tb} {st : Bool} {ks : List Lot}
abbrev numW (W : Wd) (tb : Tb) (st : Bool) (ks : List Lot) : Int := (numF (weighF W tb st ks 12) (rootF W tb) (toldF W st (allP W)) 12).getD 99
/-- the number is at most n where a right tree of n squeezes is, and only there -/
theorem num_win (O : WOk W) (Tw : TbWf tb) (hks : ∀ l, l ∈ ks ↔ Reach W tb st l) {n : Nat} (hn : n ≤ 12) : numW W tb st ks ≤ n ↔ Win W tb st n "start" (allP W) := by
  have hkid : ∀ {r : Rl} {v : Int}, r ∈ rulesF tb "start" → v ∈ widF W (allP W) r.1 → Reach W tb st (r.2, canon (behF W (allP W) r.1 v)) := fun hr' hv => .root (mem_lotsOf_brF.mpr ⟨_, hr', _, hv, rfl⟩)
  have hlo : ∀ l k, weighF W tb st ks 12 l = some k → 0 ≤ k := fun l k h => weigh_lo0 hks (Nat.le_refl _) h
  unfold numW numF
  by_cases ht : toldF W st (allP W) = true
  · rw [if_pos ht]
    exact ⟨fun _ => .told ht, fun _ => by show (0 : Int) ≤ n; omega⟩
  · rw [if_neg ht, show (12 : Int) + 1 = ((13 : Nat) : Int) from rfl]
    have key : leastF (weighF W tb st ks 12) (rootF W tb) ((13 : Nat) : Int) ≤ n ↔ Win W tb st n "start" (allP W) := by
      unfold rootF
      rw [least_iff hlo (by omega) (allP_ne O)]
      constructor
      · rintro ⟨r, h1, h2⟩
        cases n with
        | zero =>
          obtain ⟨p, ps', e⟩ := List.exists_cons_of_ne_nil (allP_ne O)
          obtain ⟨k, hk, hk2⟩ := h2 _ (mem_widF.mpr ⟨p, by rw [e]; exact List.mem_cons_self, rfl⟩)
          have := hlo _ _ hk
          omega
        | succ m =>
          refine .step h1 fun v hv => ?_
          obtain ⟨k, hk, hk2⟩ := h2 v hv
          obtain ⟨d, hd⟩ : ∃ d, 12 = m + d := ⟨12 - m, by omega⟩
          rw [hd] at hk
          have hcut := (weigh_cut (W := W) (tb := tb) (st := st) (ks := ks) (m := m) d).mpr ⟨hk, by omega⟩
          exact (weigh_win O Tw hks (by omega) (hkid h1 hv)).mp ⟨k, hcut⟩
      · intro h
        cases h with
        | told h => exact absurd h ht
        | @step m _ _ r h1 h2 =>
          refine ⟨_, h1, fun v hv => ?_⟩
          obtain ⟨k, hk⟩ := (weigh_win O Tw hks (n := m) (by omega) (hkid h1 hv)).mpr (h2 v hv)
          have hk2 := weigh_lo hk
          obtain ⟨d, hd⟩ : ∃ d, 12 = m + d := ⟨12 - m, by omega⟩
          have := ((weigh_cut (W := W) (tb := tb) (st := st) (ks := ks) (m := m) d).mp hk).1
          rw [← hd] at this
          exact ⟨k, this, by omega⟩
    rw [← key]
    split
    · exact Iff.rfl
    · rename_i h12
      constructor
      · intro h
        have h' : (99 : Int) ≤ n := h
        omega
      · intro h; omega
end
end L2.Jw
set_option Elab.async false
set_option linter.all false
set_option maxRecDepth 100000
set_option maxHeartbeats 4000000
namespace L2.Jw
open PySem PySem.Spec PyProof.Rows
theorem num_range {W : Wd} {tb : Tb} {st : Bool} {ks : List Lot} (O : WOk W) (Tw : TbWf tb) (hks : ∀ l, l ∈ ks ↔ Reach W tb st l) : (0 ≤ numW W tb st ks ∧ numW W tb st ks ≤ 12) ∨ numW W tb st ks = 99 := by
  have hlo : ∀ l k, weighF W tb st ks 12 l = some k → 0 ≤ k ∧ k ≤ 12 := fun l k h => ⟨weigh_lo0 hks (Nat.le_refl _) h, weigh_lo h⟩
  have hb : BrsOk (rootF W tb) := brF_ok Tw Tw.start (by have := len_allP O; omega) (allP_ne O)
  have h1 := least_lo hlo hb
  unfold numW numF
  split
  · exact .inl ⟨by show (0 : Int) ≤ 0; omega, by show (0 : Int) ≤ 12; omega⟩
  · rw [show (12 : Int) + 1 = 13 from rfl]
    split
    · rename_i h
      refine .inl ⟨?_, h⟩
      show 0 ≤ leastF _ _ _
      omega
    · exact .inr rfl
/-- an easier world has no greater number -/
theorem num_mono {W W' : Wd} {f : Int → Int} (E : Emb W W' f) (hf : ∀ p, inW W' p → inW W (f p.1, p.2)) (O : WOk W) (O' : WOk W') {tb tb' : Tb} (Tw : TbWf tb) (Tw' : TbWf tb') (hr : ∀ s r, r ∈ rulesF tb s → r ∈ rulesF tb' s) {st st' : Bool} (hst : st' = true → st = true)
    {ks ks' : List Lot} (hks : ∀ l, l ∈ ks ↔ Reach W tb st l) (hks' : ∀ l, l ∈ ks' ↔ Reach W' tb' st' l) (hall : ∀ p, inW W p → p ∈ allP W) : numW W' tb' st' ks' ≤ numW W tb st ks := by
  rcases num_range O Tw hks with ⟨h1, h2⟩ | h
  · have e : ((numW W tb st ks).toNat : Int) = numW W tb st ks := by omega
    have hw := (num_win O Tw hks (n := (numW W tb st ks).toNat) (by omega)).mp (by omega)
    have hw' := Win.mono E O' hr hst hw (allP_ne O') fun p hp => ⟨mem_allP hp, hall _ (hf p (mem_allP hp))⟩
    have := (num_win O' Tw' hks' (n := (numW W tb st ks).toNat) (by omega)).mpr hw'
    omega
  · rw [h]
    rcases num_range O' Tw' hks' with ⟨_, h2⟩ | h2 <;> omega
theorem inW_allP {W : Wd} {p : Pr} (h : inW W p) : p ∈ allP W := by
  obtain ⟨h1, h2, h3, h4⟩ := h
  unfold allP
  refine List.mem_flatMap.mpr ⟨p.1.toNat, List.mem_range.mpr (by omega), List.mem_map.mpr ⟨p.2.toNat, List.mem_range.mpr (by omega), ?_⟩⟩
  refine Prod.ext ?_ ?_
  · show ((p.1.toNat : Nat) : Int) = p.1
    omega
  · show ((p.2.toNat : Nat) : Int) = p.2
    omega
end L2.Jw
set_option Elab.async false
set_option linter.all false
set_option maxRecDepth 100000
set_option maxHeartbeats 4000000
namespace L2.Jw
open PySem PySem.Spec PyProof.Rows
/-! ### the same kinds in another order: as many lots -/
section
variable {W W' : Wd} {f : Int → Int}
structure CorP (f : Int → Int) (ps' ps : List Pr) : Prop where
  to : ∀ p ∈ ps', (f p.1, p.2) ∈ ps
  of : ∀ q ∈ ps, ∃ p ∈ ps', q = (f p.1, p.2)
theorem CorP.told (E : Emb W W' f) {st : Bool} {ps' ps : List Pr} (h : CorP f ps' ps) (hin : ∀ p ∈ ps', inW W' p) (hne : ps' ≠ []) : toldF W' st ps' = toldF W st ps := by
  obtain ⟨q0, qs, rfl⟩ := List.exists_cons_of_ne_nil hne
  obtain ⟨p0, ps1, rfl⟩ := List.exists_cons_of_ne_nil (l := ps) (fun z => by have := h.to q0 List.mem_cons_self; rw [z] at this; cases this)
  rw [Bool.eq_iff_iff, toldF_iff, toldF_iff]
  have hq0 := hin q0 List.mem_cons_self
  constructor
  · intro hw
    obtain ⟨r0, hr0, e0⟩ := h.of p0 List.mem_cons_self
    obtain ⟨a1, a2⟩ := hw r0 hr0
    intro q hq
    obtain ⟨p, hp, rfl⟩ := h.of q hq
    obtain ⟨b1, b2⟩ := hw p hp
    rw [e0]
    refine ⟨by show f p.1 = f r0.1; rw [a1, b1], fun hs => ?_⟩
    show (p.2 - r0.2) % (kdOf W (f r0.1)).span = 0
    rw [a1, ← E.kd q0 hq0]
    have e : p.2 - r0.2 = (p.2 - q0.2) - (r0.2 - q0.2) := by omega
    rw [e]
    exact Int.emod_eq_zero_of_dvd (Int.dvd_sub (Int.dvd_of_emod_eq_zero (b2 hs)) (Int.dvd_of_emod_eq_zero (a2 hs)))
  · intro hw p hp
    obtain ⟨a1, a2⟩ := hw _ (h.to q0 List.mem_cons_self)
    obtain ⟨b1, b2⟩ := hw _ (h.to p hp)
    refine ⟨E.inj p q0 (hin p hp) hq0 (b1.trans a1.symm), fun hs => ?_⟩
    rw [E.kd q0 hq0, show f q0.1 = p0.1 from a1]
    have e : p.2 - q0.2 = (p.2 - p0.2) - (q0.2 - p0.2) := by omega
    rw [e]
    exact Int.emod_eq_zero_of_dvd (Int.dvd_sub (Int.dvd_of_emod_eq_zero (b2 hs)) (Int.dvd_of_emod_eq_zero (a2 hs)))
theorem CorP.beh (E : Emb W W' f) {ps' ps : List Pr} (h : CorP f ps' ps) (hin : ∀ p ∈ ps', inW W' p) (t v : Int) : CorP f (canon (behF W' ps' t v)) (canon (behF W ps t v)) := by
  constructor
  · intro p hp
    obtain ⟨p1, h1, h2, rfl⟩ := mem_behF.mp hp
    exact mem_behF.mpr ⟨_, h.to p1 h1, by rw [E.sq (hin p1 h1)]; exact h2, by rw [E.sq (hin p1 h1)]; rfl⟩
  · intro q hq
    obtain ⟨q1, h1, h2, rfl⟩ := mem_behF.mp hq
    obtain ⟨p1, h3, rfl⟩ := h.of q1 h1
    rw [E.sq (hin p1 h3)] at h2
    refine ⟨_, mem_behF.mpr ⟨p1, h3, h2, rfl⟩, ?_⟩
    rw [E.sq (hin p1 h3)]
    rfl
theorem CorP.wid (E : Emb W W' f) {ps' ps : List Pr} (h : CorP f ps' ps) (hin : ∀ p ∈ ps', inW W' p) {t v : Int} (hv : v ∈ widF W' ps' t) : v ∈ widF W ps t := by
  obtain ⟨p, hp, e⟩ := mem_widF.mp hv
  exact mem_widF.mpr ⟨_, h.to p hp, by rw [E.sq (hin p hp)]; exact e⟩
end
end L2.Jw
set_option Elab.async false
set_option linter.all false
set_option maxRecDepth 100000
set_option maxHeartbeats 4000000
namespace L2.Jw
open PySem PySem.Spec PyProof.Rows
section
variable {W W' : Wd} {f : Int → Int} {tb : Tb} {st : Bool}
theorem reach_cor (E : Emb W W' f) (O' : WOk W') (Tw : TbWf tb) (hall : CorP f (allP W') (allP W)) {l : Lot} (h : Reach W' tb st l) : ∃ l2, Reach W tb st l2 ∧ l2.1 = l.1 ∧ CorP f l.2 l2.2 ∧ ∃ x, l.2 = canon x := by
  induction h with
  | root h =>
    obtain ⟨r, hr, v, hv, rfl⟩ := mem_lotsOf_brF.mp h
    exact ⟨(r.2, canon (behF W (allP W) r.1 v)), .root (mem_lotsOf_brF.mpr ⟨r, hr, v, hall.wid E (fun p hp => mem_allP hp) hv, rfl⟩), rfl, hall.beh E (fun p hp => mem_allP hp) _ _, _, rfl⟩
  | @step k l hk h ih =>
    obtain ⟨k2, h1, h2, h3, _⟩ := ih
    have hok := reach_ok O' Tw hk
    have ht := h3.told E (st := st) hok.inw hok.ne
    unfold childF at h
    split at h
    · cases h
    · rename_i hn
      obtain ⟨r, hr, v, hv, rfl⟩ := mem_lotsOf_brF.mp h
      refine ⟨(r.2, canon (behF W k2.2 r.1 v)), .step h1 ?_, rfl, h3.beh E hok.inw _ _, _, rfl⟩
      unfold childF
      rw [if_neg (by rw [← ht]; exact hn)]
      exact mem_lotsOf_brF.mpr ⟨r, by rw [h2]; exact hr, v, h3.wid E hok.inw hv, rfl⟩
theorem few_cor (E : Emb W W' f) (O' : WOk W') (Tw : TbWf tb) (hall : CorP f (allP W') (allP W)) (hF : Few W tb st) : Few W' tb st := by
  intro L hn hr
  have hex : ∀ l : Lot, ∃ l2 : Lot, Reach W' tb st l → (Reach W tb st l2 ∧ l2.1 = l.1 ∧ CorP f l.2 l2.2 ∧ ∃ x, l.2 = canon x) := fun l => by
    by_cases h : Reach W' tb st l
    · obtain ⟨l2, h2⟩ := reach_cor E O' Tw hall h
      exact ⟨l2, fun _ => h2⟩
    · exact ⟨l, fun z => absurd z h⟩
  obtain ⟨g, hg⟩ := Classical.axiomOfChoice hex
  have hinj : ∀ l ∈ L, ∀ m ∈ L, g l = g m → l = m := fun l hl m hm e => by
    obtain ⟨_, a2, a3, x, ax⟩ := hg l (hr l hl)
    obtain ⟨_, b2, b3, y, bx⟩ := hg m (hr m hm)
    have il := (reach_ok O' Tw (hr l hl)).inw
    have im := (reach_ok O' Tw (hr m hm)).inw
    have hsub : ∀ {u w : List Pr}, (∀ p ∈ u, inW W' p) → (∀ p ∈ w, inW W' p) → CorP f u (g l).2 → CorP f w (g l).2 → ∀ p, p ∈ u → p ∈ w := fun iu iw cu cw p hp => by
      obtain ⟨p', hp', e'⟩ := cw.of _ (cu.to p hp)
      have e1 : f p.1 = f p'.1 := (Prod.ext_iff.mp e').1
      have h1 : p.1 = p'.1 := E.inj p p' (iu p hp) (iw p' hp') e1
      have h2 : p.2 = p'.2 := (Prod.ext_iff.mp e').2
      rw [show p = p' from Prod.ext h1 h2]
      exact hp'
    rw [← e] at b3
    refine Prod.ext (by rw [← a2, ← b2, e]) ?_
    rw [ax, bx]
    refine canon_congr fun p => ?_
    rw [← mem_canon, ← ax, ← mem_canon (l := y), ← bx]
    exact ⟨hsub il im a3 b3 p, hsub im il b3 a3 p⟩
  have hnd : (L.map g).Nodup := by
    rw [List.nodup_iff_pairwise_ne, List.pairwise_map]
    refine List.Pairwise.imp_of_mem (fun {a b} ha hb hne e => hne (hinj a ha b hb e)) (List.nodup_iff_pairwise_ne.mp hn)
  have := hF (L.map g) hnd fun l hl => by
    obtain ⟨m, hm, rfl⟩ := List.mem_map.mp hl
    exact (hg m (hr m hm)).1
  rw [List.length_map] at this
  exact this
end
end L2.Jw
set_option Elab.async false
set_option linter.all false
set_option maxRecDepth 100000
set_option maxHeartbeats 4000000
namespace L2.Jw
open PySem PySem.Spec PyProof.Rows
/-! ### parts taken by their numbers -/
structure Pick (pds' pds : List PartD) (g : Nat → Nat) : Prop where
  at' : ∀ i, i < pds'.length → g i < pds.length ∧ pds'[i]? = pds[g i]?
  inj : ∀ i j, i < pds'.length → j < pds'.length → g i = g j → i = j
def kOf (g : Nat → Nat) (k : Int) : Int := ((g k.toNat : Nat) : Int)
theorem wd_len {N : Int} {pds : List PartD} : (wdF N pds).ks.length = pds.length := by unfold wdF; exact List.length_map ..
theorem Pick.emb {N : Int} {pds' pds : List PartD} {g : Nat → Nat} (h : Pick pds' pds g) : Emb (wdF N pds) (wdF N pds') (kOf g) := by
  refine ⟨rfl, fun p hp => ?_, fun p q hp hq e => ?_⟩
  · obtain ⟨h1, h2, _⟩ := hp
    rw [wd_len] at h2
    have h3 := h.at' p.1.toNat (by omega)
    unfold kdOf kOf
    rw [List.getD_eq_getElem?_getD, List.getD_eq_getElem?_getD, Int.toNat_natCast]
    show (((wdF N pds').ks)[p.1.toNat]?).getD _ = (((wdF N pds).ks)[g p.1.toNat]?).getD _
    unfold wdF
    rw [List.getElem?_map, List.getElem?_map, h3.2]
  · obtain ⟨h1, h2, _⟩ := hp
    obtain ⟨h4, h5, _⟩ := hq
    rw [wd_len] at h2 h5
    unfold kOf at e
    have := h.inj p.1.toNat q.1.toNat (by omega) (by omega) (by exact_mod_cast e)
    omega
theorem Pick.inW {N : Int} {pds' pds : List PartD} {g : Nat → Nat} (h : Pick pds' pds g) {p : Pr} (hp : Jw.inW (wdF N pds') p) : Jw.inW (wdF N pds) (kOf g p.1, p.2) := by
  obtain ⟨h1, h2, h3, h4⟩ := hp
  rw [wd_len] at h2
  have := (h.at' p.1.toNat (by omega)).1
  refine ⟨by show (0 : Int) ≤ ((g p.1.toNat : Nat) : Int); omega, ?_, h3, h4⟩
  show ((g p.1.toNat : Nat) : Int) < ((wdF N pds).ks.length : Nat)
  rw [wd_len]
  omega
end L2.Jw
set_option Elab.async false
set_option linter.all false
set_option maxRecDepth 100000
set_option maxHeartbeats 4000000
namespace L2.Jw
open PySem PySem.Spec PyProof.Rows
theorem pick_less {pds : List PartD} {b : Nat} (hb : b < pds.length) : Pick (pds.take b ++ pds.drop (b + 1)) pds (fun i => if i < b then i else i + 1) := by
  have hl : (pds.take b ++ pds.drop (b + 1)).length = pds.length - 1 := by rw [List.length_append, List.length_take, List.length_drop]; omega
  refine ⟨fun i hi => ?_, fun i j _ _ e => ?_⟩
  · rw [hl] at hi
    show (if i < b then i else i + 1) < _ ∧ _ = pds[if i < b then i else i + 1]?
    by_cases h : i < b
    · rw [if_pos h]
      refine ⟨by omega, ?_⟩
      rw [List.getElem?_append_left (by rw [List.length_take]; omega), List.getElem?_take_of_lt h]
    · rw [if_neg h]
      refine ⟨by omega, ?_⟩
      rw [List.getElem?_append_right (by rw [List.length_take]; omega), List.length_take, List.getElem?_drop]
      congr 1
      omega
  · have e' : (if i < b then i else i + 1) = (if j < b then j else j + 1) := e
    split at e' <;> split at e' <;> omega
theorem pick_rot {pds : List PartD} {b : Nat} (hb : b ≤ pds.length) : Pick (pds.drop b ++ pds.take b) pds (fun i => if i < pds.length - b then b + i else i - (pds.length - b)) := by
  have hl : (pds.drop b ++ pds.take b).length = pds.length := by rw [List.length_append, List.length_take, List.length_drop]; omega
  refine ⟨fun i hi => ?_, fun i j hi hj e => ?_⟩
  · rw [hl] at hi
    show (if i < pds.length - b then b + i else i - (pds.length - b)) < _ ∧ _ = pds[if i < pds.length - b then b + i else i - (pds.length - b)]?
    by_cases h : i < pds.length - b
    · rw [if_pos h]
      refine ⟨by omega, ?_⟩
      rw [List.getElem?_append_left (by rw [List.length_drop]; omega), List.getElem?_drop]
    · rw [if_neg h]
      refine ⟨by omega, ?_⟩
      rw [List.getElem?_append_right (by rw [List.length_drop]; omega), List.length_drop, List.getElem?_take_of_lt (by omega)]
  · rw [hl] at hi hj
    have e' : (if i < pds.length - b then b + i else i - (pds.length - b)) = (if j < pds.length - b then b + j else j - (pds.length - b)) := e
    split at e' <;> split at e' <;> omega
end L2.Jw
set_option Elab.async false
set_option linter.all false
set_option maxRecDepth 100000
set_option maxHeartbeats 4000000
namespace L2.Jw
open PySem PySem.Spec PyProof.Rows
/-- a pick that comes to every part -/
theorem Pick.cor {N : Int} {pds' pds : List PartD} {g : Nat → Nat} (h : Pick pds' pds g) (hs : ∀ j, j < pds.length → ∃ i, i < pds'.length ∧ g i = j) : CorP (kOf g) (allP (wdF N pds')) (allP (wdF N pds)) := by
  refine ⟨fun p hp => inW_allP (h.inW (mem_allP hp)), fun q hq => ?_⟩
  obtain ⟨h1, h2, h3, h4⟩ := mem_allP hq
  rw [wd_len] at h2
  obtain ⟨i, hi, e⟩ := hs q.1.toNat (by omega)
  refine ⟨((i : Int), q.2), inW_allP ⟨by show (0 : Int) ≤ i; omega, ?_, h3, h4⟩, ?_⟩
  · show (i : Int) < ((wdF N pds').ks.length : Nat)
    rw [wd_len]
    omega
  · refine Prod.ext ?_ rfl
    show q.1 = ((g (i : Int).toNat : Nat) : Int)
    rw [Int.toNat_natCast, e]
    omega
theorem rot_surj {pds : List PartD} {b : Nat} (hb : b ≤ pds.length) (j : Nat) (hj : j < pds.length) : ∃ i, i < (pds.drop b ++ pds.take b).length ∧ (if i < pds.length - b then b + i else i - (pds.length - b)) = j := by
  have hl : (pds.drop b ++ pds.take b).length = pds.length := by rw [List.length_append, List.length_take, List.length_drop]; omega
  rw [hl]
  by_cases h : j < b
  · exact ⟨j + (pds.length - b), by omega, by rw [if_neg (by omega)]; omega⟩
  · exact ⟨j - b, by omega, by rw [if_pos (by omega)]; omega⟩
theorem rot_back {pds : List PartD} {b : Nat} (hb : b ≤ pds.length) : (pds.drop b ++ pds.take b).drop (pds.length - b) ++ (pds.drop b ++ pds.take b).take (pds.length - b) = pds := by
  have h1 : (pds.drop b).length = pds.length - b := List.length_drop
  rw [← h1, List.drop_left, List.take_left, List.take_append_drop]
/-- kinds in another order: as few lots, the same number -/
theorem rot_few {N : Int} {pds : List PartD} {b : Nat} (hb : b ≤ pds.length) (O' : WOk (wdF N (pds.drop b ++ pds.take b))) {tb : Tb} (Tw : TbWf tb) {st : Bool} (h : Few (wdF N pds) tb st) : Few (wdF N (pds.drop b ++ pds.take b)) tb st :=
  few_cor (pick_rot hb).emb O' Tw ((pick_rot hb).cor (rot_surj hb)) h
theorem rot_num {N : Int} {pds : List PartD} {b : Nat} (hb : b ≤ pds.length) (O : WOk (wdF N pds)) (O' : WOk (wdF N (pds.drop b ++ pds.take b))) {tb : Tb} (Tw : TbWf tb) {st : Bool} {ks ks' : List Lot} (hks : ∀ l, l ∈ ks ↔ Reach (wdF N pds) tb st l) (hks' : ∀ l, l ∈ ks' ↔ Reach (wdF N (pds.drop b ++ pds.take b)) tb st l) :
    numW (wdF N (pds.drop b ++ pds.take b)) tb st ks' = numW (wdF N pds) tb st ks := by
  have hl : (pds.drop b ++ pds.take b).length = pds.length := by rw [List.length_append, List.length_take, List.length_drop]; omega
  have h1 := num_mono (pick_rot hb).emb (fun p hp => (pick_rot hb).inW hp) O O' Tw Tw (fun _ _ h => h) (fun h => h) hks hks' (fun p hp => inW_allP hp)
  have P2 := pick_rot (pds := pds.drop b ++ pds.take b) (b := pds.length - b) (by omega)
  rw [rot_back hb] at P2
  have h2 := num_mono P2.emb (fun p hp => P2.inW hp) O' O Tw Tw (fun _ _ h => h) (fun h => h) hks' hks (fun p hp => inW_allP hp)
  omega
end L2.Jw
set_option Elab.async false
set_option linter.all false
set_option maxRecDepth 100000
set_option maxHeartbeats 4000000
namespace L2.Jw
open PySem PySem.Spec PyProof.Rows
section
variable {W : Wd} {tb : Tb} {st : Bool} {wv : Lot → Option Int}
theorem child_lots {l : Lot} {x : Int × List (Int × Lot)} {q : Int × Lot} (hr : Reach W tb st l) (hx : x ∈ childF W tb st l) (hq : q ∈ x.2) : Reach W tb st q.2 :=
  .step hr (List.mem_flatMap.mpr ⟨x, hx, List.mem_map.mpr ⟨q, hq, rfl⟩⟩)
/-- the tree's shape -/
theorem good_tree (O : WOk W) (Tw : TbWf tb) : ∀ (n : Nat) (told : Bool) (b : Brs) (ps : List Pr) (last : Int), BrsOk b → (∀ x ∈ b, ∀ q ∈ x.2, Reach W tb st q.2) → GoodT n (treeF W tb st wv n told b ps last)
  | 0, _, _, _, _, _, _ => .kind
  | n + 1, told, b, ps, last, hb, hr => by
    unfold treeF
    split
    · exact .kind
    · split
      · exact .kind
      · rename_i x hx
        have hxb := List.mem_of_find?_eq_some hx
        obtain ⟨h1, h2⟩ := hb.lots x hxb
        refine .sq (fun z => h1 (List.map_eq_nil_iff.mp z)) ?_ (by rw [List.length_map]; exact h2) fun q hq => ?_
        · rw [List.map_map]
          exact hb.nd x hxb
        · obtain ⟨q1, hq1, rfl⟩ := List.mem_map.mp hq
          have h3 := hr x hxb q1 hq1
          exact good_tree O Tw n _ _ _ _ (child_ok Tw (reach_ok O Tw h3)) fun y hy q2 hq2 => child_lots h3 hy hq2
end
end L2.Jw
set_option Elab.async false
set_option linter.all false
set_option maxRecDepth 100000
set_option maxHeartbeats 4000000
namespace L2.Jw
open PySem PySem.Spec PyProof.Rows
theorem sum_filter {α : Type} (w : α → Int) {vs : List Int} (hn : vs.Nodup) : ∀ ps : List α, (vs.map fun v => (ps.filter fun p => decide (w p = v)).length).sum ≤ ps.length
  | [] => by
    have : ∀ vs : List Int, (vs.map fun v => (([] : List α).filter fun p => decide (w p = v)).length).sum = 0 := fun vs => by
      induction vs with
      | nil => rfl
      | cons v vs ih => rw [List.map_cons, List.sum_cons, ih]; rfl
    rw [this]
    exact Nat.le_refl _
  | p :: ps => by
    have ih := sum_filter w hn ps
    have key : ∀ {vs : List Int}, vs.Nodup → (vs.map fun v => ((p :: ps).filter fun p => decide (w p = v)).length).sum ≤ (vs.map fun v => (ps.filter fun p => decide (w p = v)).length).sum + (if w p ∈ vs then 1 else 0) := fun {vs} hn => by
      induction vs with
      | nil => exact Nat.le_refl _
      | cons v vs ih2 =>
        obtain ⟨h1, h2⟩ := List.nodup_cons.mp hn
        have h3 := ih2 h2
        rw [List.map_cons, List.sum_cons, List.map_cons, List.sum_cons]
        by_cases e : w p = v
        · rw [if_neg (by rw [e]; exact h1)] at h3
          rw [if_pos (by rw [e]; exact List.mem_cons_self), List.filter_cons_of_pos (p := fun p => decide (w p = v)) (decide_eq_true e), List.length_cons]
          omega
        · rw [List.filter_cons_of_neg (p := fun p => decide (w p = v)) (by rw [decide_eq_false e]; exact Bool.false_ne_true)]
          have h4 : (if w p ∈ v :: vs then 1 else 0) = (if w p ∈ vs then 1 else 0) := by
            by_cases h : w p ∈ vs
            · rw [if_pos h, if_pos (List.mem_cons_of_mem _ h)]
            · rw [if_neg h, if_neg (fun z => (List.mem_cons.mp z).elim e h)]
          rw [h4]
          omega
    have h5 := key hn
    rw [List.length_cons]
    have h6 : (if w p ∈ vs then 1 else 0) ≤ 1 := by split <;> omega
    omega
end L2.Jw
set_option Elab.async false
set_option linter.all false
set_option maxRecDepth 100000
set_option maxHeartbeats 4000000
namespace L2.Jw
open PySem PySem.Spec PyProof.Rows
section
variable {W : Wd} {tb : Tb} {st : Bool} {wv : Lot → Option Int}
/-- the squeezes of the pairs ps -/
def BrOf (W : Wd) (b : Brs) (ps : List Pr) : Prop := ∀ x ∈ b, ∃ (t : Int) (g : Str), x = (t, (partF W ps t).map fun q => (q.1, (g, q.2)))
theorem brOf_brF {s : Str} {ps : List Pr} : BrOf W (brF W tb s ps) ps := fun x hx => by
  unfold brF at hx
  obtain ⟨r, _, rfl⟩ := List.mem_map.mp hx
  exact ⟨r.1, r.2, rfl⟩
theorem brOf_child {l : Lot} : BrOf W (childF W tb st l) l.2 := by
  unfold childF
  split
  · intro x hx; cases hx
  · exact brOf_brF
theorem sum_beh (ps : List Pr) (t : Int) : ((partF W ps t).map fun q => q.2.length).sum ≤ ps.length := by
  unfold partF
  rw [List.map_map]
  refine Nat.le_trans ?_ (sum_filter (fun p => (sqF W p t).2) (vs := widF W ps t) (nodup_canonI _) ps)
  have : ∀ vs : List Int, (vs.map ((fun q : Int × List Pr => q.2.length) ∘ fun w => (w, canon (behF W ps t w)))).sum ≤ (vs.map fun v => (ps.filter fun p => decide ((sqF W p t).2 = v)).length).sum := fun vs => by
    induction vs with
    | nil => exact Nat.le_refl _
    | cons v vs ih =>
      rw [List.map_cons, List.sum_cons, List.map_cons, List.sum_cons]
      have h1 : (canon (behF W ps t v)).length ≤ (ps.filter fun p => decide ((sqF W p t).2 = v)).length := by
        refine Nat.le_trans (canon_len _) ?_
        unfold behF
        rw [List.length_map]
        exact Nat.le_refl _
      exact Nat.add_le_add h1 ih
  exact this _
theorem size_tree : ∀ (n : Nat) (told : Bool) (b : Brs) (ps : List Pr) (last : Int), BrOf W b ps → sizeF n (treeF W tb st wv n told b ps last) ≤ 1 + n * ps.length
  | 0, _, _, _, _, _ => by show 1 ≤ _; omega
  | n + 1, told, b, ps, last, hb => by
    unfold treeF
    split
    · show 1 ≤ _; omega
    · split
      · show 1 ≤ _; omega
      · rename_i x hx
        obtain ⟨t, g, rfl⟩ := hb x (List.mem_of_find?_eq_some hx)
        show 1 + _ ≤ _
        rw [List.map_map, List.map_map]
        have hs := sum_beh (W := W) ps t
        have hne : ∀ q ∈ partF W ps t, 1 ≤ q.2.length := fun q hq => by
          unfold partF at hq
          obtain ⟨v, hv, rfl⟩ := List.mem_map.mp hq
          obtain ⟨p, hp, e⟩ := mem_widF.mp hv
          exact List.length_pos_iff.mpr (fun z => by
            have : (sqF W p t).1 ∈ canon (behF W ps t v) := mem_behF.mpr ⟨p, hp, e, rfl⟩
            have z' : canon (behF W ps t v) = [] := z
            rw [z'] at this
            cases this)
        have key : ∀ qs : List (Int × List Pr), (∀ q ∈ qs, 1 ≤ q.2.length) → (qs.map (((fun q : Int × GT => sizeF n q.2) ∘ fun q : Int × Lot => (q.1, treeF W tb st wv n (decide (wv q.2 = some 0)) (childF W tb st q.2) q.2.2 ((last + t) % W.N))) ∘ fun q : Int × List Pr => (q.1, (g, q.2)))).sum ≤ (n + 1) * (qs.map fun q => q.2.length).sum := fun qs => by
          induction qs with
          | nil => intro _; exact Nat.zero_le _
          | cons q qs ih =>
            intro hq
            rw [List.map_cons, List.sum_cons, List.map_cons, List.sum_cons, Nat.mul_add]
            refine Nat.add_le_add ?_ (ih fun q' h => hq q' (List.mem_cons_of_mem _ h))
            have h1 := size_tree n (decide (wv (g, q.2) = some 0)) (childF W tb st (g, q.2)) q.2 ((last + t) % W.N) brOf_child
            have h2 := hq q List.mem_cons_self
            refine Nat.le_trans h1 ?_
            rw [Nat.succ_mul]
            omega
        have h3 := key _ hne
        have h4 : (n + 1) * ((partF W ps t).map fun q => q.2.length).sum ≤ (n + 1) * ps.length := Nat.mul_le_mul_left _ hs
        exact Nat.add_le_add_left (Nat.le_trans h3 h4) 1
end
end L2.Jw
set_option Elab.async false
set_option linter.all false
set_option maxRecDepth 100000
set_option maxHeartbeats 4000000
namespace L2.Jw
open PySem PySem.Spec PyProof.Rows
/-! ### each way down is a log that fits the leaf's kind and no other -/
inductive RightT (W : Wd) : Int → List Pr → GT → Prop
  | kind {last k : Int} {ps : List Pr} : ps ≠ [] → (∀ p ∈ ps, p.1 = k) → RightT W last ps (.kind k)
  | sq {last t : Int} {ps : List Pr} {cs : List (Int × GT)} : (∀ q ∈ cs, RightT W t (canon (behF W ps (t - last) q.1)) q.2) → RightT W last ps (.sq t cs)
structure Ties (l : List Tri) (ps : List Pr) : Prop where
  to : ∀ x ∈ l, (x.1, x.2.2) ∈ ps
  of : ∀ p ∈ ps, ∃ x ∈ l, (x.1, x.2.2) = p
def lastF : Int → List (Int × Int) → Int
  | last, [] => last
  | _, (t, _) :: p => lastF t p
theorem fitL_snocP {W : Wd} : ∀ (p : List (Int × Int)) (last : Int) (l : List Tri) (a w : Int), fitL W last l (p ++ [(a, w)]) = stillF W (fitL W last l p) (a - lastF last p) w
  | [], _, _, _, _ => rfl
  | (t, v) :: p, last, l, a, w => fitL_snocP p t (stillF W l (t - last) v) a w
theorem lastF_snoc : ∀ (p : List (Int × Int)) (last a w : Int), lastF last (p ++ [(a, w)]) = a
  | [], _, _, _ => rfl
  | (t, _) :: p, _, a, w => lastF_snoc p t a w
theorem Ties.still {W : Wd} {l : List Tri} {ps : List Pr} (h : Ties l ps) (t w : Int) : Ties (stillF W l t w) (canon (behF W ps t w)) := by
  constructor
  · intro x hx
    unfold stillF at hx
    obtain ⟨y, hy, e⟩ := List.mem_filterMap.mp hx
    split at e
    · rename_i hw
      cases e
      exact mem_behF.mpr ⟨_, h.to y hy, hw, rfl⟩
    · cases e
  · intro p hp
    obtain ⟨q, hq, hw, rfl⟩ := mem_behF.mp hp
    obtain ⟨x, hx, rfl⟩ := h.of q hq
    refine ⟨_, List.mem_filterMap.mpr ⟨x, hx, if_pos hw⟩, rfl⟩
theorem right_path {W : Wd} {last : Int} {ps : List Pr} {l : List Tri} {t t' : GT} {p : List (Int × Int)} (hr : RightT W last ps t) (hl : Ties l ps) (hp : Path t p t') : ∃ ps', RightT W (lastF last p) ps' t' ∧ Ties (fitL W last l p) ps' := by
  induction hp with
  | nil => exact ⟨ps, hr, hl⟩
  | @snoc t' p a cs q _ hq e ih =>
    obtain ⟨ps', h1, h2⟩ := ih
    subst e
    cases h1 with
    | sq h3 =>
      refine ⟨canon (behF W ps' (a - lastF last p) q.1), ?_, ?_⟩
      · rw [lastF_snoc]
        exact h3 q hq
      · rw [fitL_snocP]
        exact h2.still _ _
theorem ties_all (W : Wd) : Ties (triP W) (allP W) := by
  constructor
  · intro x hx
    unfold triP at hx
    obtain ⟨p, hp, rfl⟩ := List.mem_map.mp hx
    exact hp
  · intro p hp
    exact ⟨(p.1, p.2, p.2), List.mem_map.mpr ⟨p, hp, rfl⟩, rfl⟩
theorem right_fits {W : Wd} {t : GT} {p : List (Int × Int)} {k : Int} (hr : RightT W 0 (allP W) t) (hp : Path t p (.kind k)) : fitsF W p ≠ [] ∧ ∀ q ∈ fitsF W p, q.1 = k := by
  obtain ⟨ps', h1, h2⟩ := right_path hr (ties_all W) hp
  cases h1 with
  | kind h3 h4 =>
    unfold fitsF
    constructor
    · intro z
      obtain ⟨q, qs, rfl⟩ := List.exists_cons_of_ne_nil h3
      obtain ⟨x, hx, _⟩ := h2.of q List.mem_cons_self
      rw [List.map_eq_nil_iff.mp z] at hx
      cases hx
    · intro q hq
      obtain ⟨x, hx, rfl⟩ := List.mem_map.mp hq
      have h5 := h4 _ (h2.to x hx)
      exact h5
end L2.Jw
set_option Elab.async false
set_option linter.all false
set_option maxRecDepth 100000
set_option maxHeartbeats 4000000
namespace L2.Jw
open PySem PySem.Spec PyProof.Rows
section
variable {W : Wd} {tb : Tb} {st : Bool} {wv : Lot → Option Int}
theorem beh_mod {ps : List Pr} {t u : Int} (h : t % W.N = u % W.N) (v : Int) : behF W ps t v = behF W ps u v := by
  have hs : ∀ p : Pr, sqF W p t = sqF W p u := fun p => by
    have e : landF W p t = landF W p u := by
      unfold landF
      rw [Int.sub_emod, h, ← Int.sub_emod]
    unfold sqF
    rw [e]
  unfold behF
  simp only [hs]
theorem told_kind {ps : List Pr} (h : toldF W st ps = true) : ∀ p ∈ ps, p.1 = (ps.headD (0, 0)).1 := by
  intro p hp
  cases ps with
  | nil => cases hp
  | cons p0 ps => exact (toldF_iff.mp h p hp).1
theorem back_mod (last t N : Int) : ((last + t) % N - last) % N = t % N := by
  rw [Int.emod_sub_emod]
  congr 1
  omega
/-- the tree is right -/
theorem right_tree (O : WOk W) (Tw : TbWf tb) (U : WvOk W tb st wv) : ∀ (n : Nat) (told : Bool) (b : Brs) (ps : List Pr) (last : Int), ps ≠ [] → BrsOk b → BrOf W b ps → (told = true → toldF W st ps = true) → (told = false → leastF wv b 13 ≤ n) → n ≤ 12 → RightT W last ps (treeF W tb st wv n told b ps last)
  | 0, told, b, ps, last, hne, hb, _, h1, h2, _ => by
    cases told with
    | true => exact .kind hne (told_kind (h1 rfl))
    | false =>
      exfalso
      have h3 := h2 rfl
      have h4 := least_lo U.lo hb
      have h3' : leastF wv b 13 ≤ 0 := h3
      omega
  | n + 1, true, b, ps, last, hne, hb, _, h1, _, _ => by
    unfold treeF
    rw [if_pos rfl]
    exact .kind hne (told_kind (h1 rfl))
  | n + 1, false, b, ps, last, hne, hb, hof, _, h2, hn => by
    have hle := h2 rfl
    obtain ⟨x, hx, hxb, hxe⟩ := best_find (wv := wv) (b := b) (by omega)
    unfold treeF
    rw [if_neg Bool.false_ne_true, hx]
    refine .sq fun q hq => ?_
    obtain ⟨q1, hq1, rfl⟩ := List.mem_map.mp hq
    obtain ⟨k, hk, hkn⟩ := worst_each (n := (n : Int)) (lots := x.2) (wv := wv) (by omega) (by omega) hq1
    obtain ⟨t, g, hxt⟩ := hof x hxb
    have hok := reach_ok O Tw (U.rch _ _ hk)
    have e : canon (behF W ps ((last + x.1) % W.N - last) q1.1) = q1.2.2 := by
      rw [hxt] at hq1 ⊢
      obtain ⟨q2, hq2, rfl⟩ := List.mem_map.mp hq1
      unfold partF at hq2
      obtain ⟨v, hv, rfl⟩ := List.mem_map.mp hq2
      show canon (behF W ps ((last + t) % W.N - last) v) = canon (behF W ps t v)
      rw [beh_mod (back_mod last t W.N)]
    have h := right_tree O Tw U n (decide (wv q1.2 = some 0)) (childF W tb st q1.2) q1.2.2 ((last + x.1) % W.N) hok.ne (child_ok Tw hok) brOf_child (fun h => U.zero _ (of_decide_eq_true h)) (fun h => ?_) (by omega)
    · rw [← e] at h
      show RightT W _ (canon (behF W ps ((last + x.1) % W.N - last) q1.1)) (treeF W tb st wv n (decide (wv q1.2 = some 0)) (childF W tb st q1.2) q1.2.2 ((last + x.1) % W.N))
      rw [← e]
      exact h
    · have hk0 : k ≠ 0 := fun z => by
        rw [z] at hk
        exact of_decide_eq_false h hk
      have := U.pos _ _ hk hk0
      omega
end
/-! ### the whole tree -/
theorem the_tree {W : Wd} {tb : Tb} {st : Bool} {ks : List Lot} (O : WOk W) (Tw : TbWf tb) (hks : ∀ l, l ∈ ks ↔ Reach W tb st l) {n : Int} (hn : numF (weighF W tb st ks 12) (rootF W tb) (toldF W st (allP W)) 12 = some n) :
    GoodT 12 (treeF W tb st (weighF W tb st ks 12) 12 (toldF W st (allP W)) (rootF W tb) (allP W) 0) ∧ sizeF 12 (treeF W tb st (weighF W tb st ks 12) 12 (toldF W st (allP W)) (rootF W tb) (allP W) 0) ≤ 4000 ∧
    RightT W 0 (allP W) (treeF W tb st (weighF W tb st ks 12) 12 (toldF W st (allP W)) (rootF W tb) (allP W) 0) := by
  have hbo : BrsOk (rootF W tb) := brF_ok Tw Tw.start (by have := len_allP O; omega) (allP_ne O)
  refine ⟨good_tree O Tw 12 _ _ _ _ hbo fun x hx q hq => .root (List.mem_flatMap.mpr ⟨x, hx, List.mem_map.mpr ⟨q, hq, rfl⟩⟩), ?_, right_tree O Tw (weigh_ok hks (Nat.le_refl _)) 12 _ _ _ 0 (allP_ne O) hbo brOf_brF (fun h => h) (fun h => ?_) (Nat.le_refl _)⟩
  · have h1 := size_tree (W := W) (tb := tb) (st := st) (wv := weighF W tb st ks 12) 12 (toldF W st (allP W)) (rootF W tb) (allP W) 0 brOf_brF
    have h2 := len_allP O
    omega
  · unfold numF at hn
    rw [h, if_neg Bool.false_ne_true] at hn
    split at hn
    · rename_i hle
      exact hle
    · cases hn
/-! ### the number does not hang on how the lots are listed -/
theorem emb_id (W : Wd) : Emb W W id := ⟨rfl, fun _ _ => rfl, fun _ _ _ _ h => h⟩
theorem num_uniq {W : Wd} {tb : Tb} {st : Bool} {ks ks' : List Lot} (O : WOk W) (Tw : TbWf tb) (hks : ∀ l, l ∈ ks ↔ Reach W tb st l) (hks' : ∀ l, l ∈ ks' ↔ Reach W tb st l) : numW W tb st ks' = numW W tb st ks := by
  have h1 := num_mono (emb_id W) (fun p hp => hp) O O Tw Tw (fun _ _ h => h) (fun h => h) hks hks' (fun p hp => inW_allP hp)
  have h2 := num_mono (emb_id W) (fun p hp => hp) O O Tw Tw (fun _ _ h => h) (fun h => h) hks' hks (fun p hp => inW_allP hp)
  omega
/-! ### tables -/
theorem of_look : ∀ {tb : Tb} {s : Str} {rs : List Rl}, tb.lookup s = some rs → (s, rs) ∈ tb
  | [], _, _, h => by cases h
  | (a1, a2) :: t, s, rs, h => by
    rw [List.lookup_cons] at h
    by_cases e : s = a1
    · subst e
      simp at h
      rw [h]
      exact List.mem_cons_self ..
    · have e' : (s == a1) = false := by simpa using e
      rw [e'] at h
      exact List.mem_cons_of_mem _ (of_look h)
theorem look_of : ∀ {tb : Tb} {s : Str} {rs : List Rl}, (tb.map Prod.fst).Nodup → (s, rs) ∈ tb → tb.lookup s = some rs
  | [], _, _, _, h => by cases h
  | (a1, a2) :: t, s, rs, hn, h => by
    rw [List.map_cons] at hn
    obtain ⟨h1, h2⟩ := List.nodup_cons.mp hn
    rw [List.lookup_cons]
    rcases List.mem_cons.mp h with e | h
    · cases e
      simp
    · have e' : (s == a1) = false := by
        have : ¬ s = a1 := fun z => h1 (List.mem_map.mpr ⟨(s, rs), h, z⟩)
        simpa using this
      rw [e']
      exact look_of h2 h
section
variable {S : List Str} {N : Int} {mx mx' : Nat} {tb tb2 tb' tb2' : Tb}
theorem tbRel_row (hok : TbOk S N mx tb) (hS : S.Nodup) (hrel : TbRel N tb tb2) {s : Str} {rs2 : List Rl} (h : tb2.lookup s = some rs2) : ∃ rs, (s, rs) ∈ tb ∧ tb.lookup s = some rs ∧ rs2.Perm (rs.map (redR N)) := by
  have h1 : s ∈ tb.map Prod.fst := hrel.keys.mem_iff.mp (List.mem_map.mpr ⟨_, of_look h, rfl⟩)
  obtain ⟨⟨s', rs⟩, h2, e⟩ := List.mem_map.mp h1
  have e' : s' = s := e
  subst e'
  have h3 := look_of (by rw [hok.keys]; exact hS) h2
  obtain ⟨rs', h4, h5⟩ := hrel.rows _ _ h3
  rw [h] at h4
  cases h4
  exact ⟨rs, h2, h3, h5⟩
theorem tbRel_has (hok : TbOk S N mx tb) (hS : S.Nodup) (hrel : TbRel N tb tb2) {s : Str} (h : s ∈ S) : ∃ rs, tb2.lookup s = some rs := by
  rw [← hok.keys] at h
  obtain ⟨⟨s', rs⟩, h2, e⟩ := List.mem_map.mp h
  have e' : s' = s := e
  subst e'
  have h3 := look_of (by rw [hok.keys]; exact hS) h2
  obtain ⟨rs', h4, _⟩ := hrel.rows _ _ h3
  exact ⟨rs', h4⟩
theorem tbRel_ok (hok : TbOk S N mx tb) (hmx : mx ≤ 7) (hS : S.Nodup) (hst : ("start" : Str) ∈ S) (h5 : S.length ≤ 5) (hrel : TbRel N tb tb2) : TbWf tb2 ∧ tb2.length ≤ 5 ∧ ∀ q ∈ tb2, q.2.length ≤ 7 := by
  have hlen : ∀ s rs2, tb2.lookup s = some rs2 → rs2.length ≤ 7 := fun s rs2 h => by
    obtain ⟨rs, h1, _, h3⟩ := tbRel_row hok hS hrel h
    have := (hok.rows _ h1).len
    rw [h3.length_eq, List.length_map]
    exact Nat.le_trans this hmx
  have hnd : (tb2.map Prod.fst).Nodup := by
    refine hrel.keys.nodup_iff.mpr ?_
    rw [hok.keys]
    exact hS
  refine ⟨⟨tbRel_has hok hS hrel hst, hlen, fun s rs2 h r hr => ?_⟩, ?_, fun q hq => hlen q.1 q.2 (look_of hnd hq)⟩
  · obtain ⟨rs, h1, _, h3⟩ := tbRel_row hok hS hrel h
    obtain ⟨r0, hr0, rfl⟩ := List.mem_map.mp (h3.mem_iff.mp hr)
    exact tbRel_has hok hS hrel (s := r0.2) ((hok.rows _ h1).goal r0 hr0)
  · have h1 := hrel.keys.length_eq
    rw [List.length_map, hok.keys] at h1
    omega
theorem sub_rules (hok : TbOk S N mx tb) (hok' : TbOk S N mx' tb') (hS : S.Nodup) (hrel : TbRel N tb tb2) (hrel' : TbRel N tb' tb2') (hsub : Sub tb tb') (s : Str) (r : Rl) (h : r ∈ rulesF tb2 s) : r ∈ rulesF tb2' s := by
  unfold rulesF at h ⊢
  cases hl : tb2.lookup s with
  | none => rw [hl] at h; cases h
  | some rs2 =>
    rw [hl] at h
    obtain ⟨rs, h1, _, h3⟩ := tbRel_row hok hS hrel hl
    obtain ⟨r0, hr0, rfl⟩ := List.mem_map.mp (h3.mem_iff.mp h)
    obtain ⟨rs', h4, h5⟩ := hsub _ _ h1
    obtain ⟨rs2', h6, h7⟩ := hrel'.rows _ _ (look_of (by rw [hok'.keys]; exact hS) h4)
    rw [h6]
    exact h7.mem_iff.mpr (List.mem_map.mpr ⟨r0, h5 _ hr0, rfl⟩)
end
theorem TbOk.wide {S : List Str} {N : Int} {tb : Tb} (h : TbOk S N 3 tb) : TbOk S N 7 tb := ⟨h.keys, fun q hq => ⟨Nat.le_trans (h.rows q hq).len (by decide), (h.rows q hq).goal, (h.rows q hq).nd⟩⟩
/-! ### what the law compares -/
section
variable {W W' : Wd} {tb tb' : Tb} {st st' : Bool} {n n' : Int}
theorem lwr_num (h : LWR W tb st 12 n) (hn : n ≠ -1) : Few W tb st ∧ ∃ ks : List Lot, (∀ l, l ∈ ks ↔ Reach W tb st l) ∧ n = numW W tb st ks := by
  rcases h with ⟨_, h⟩ | ⟨h1, ks, h2, h3⟩
  · exact absurd h hn
  · exact ⟨h1, ks, h2, h3⟩
theorem lwr_easier {f : Int → Int} (E : Emb W W' f) (hf : ∀ p, inW W' p → inW W (f p.1, p.2)) (O : WOk W) (O' : WOk W') (Tw : TbWf tb) (Tw' : TbWf tb') (hr : ∀ s r, r ∈ rulesF tb s → r ∈ rulesF tb' s) (hst : st' = true → st = true)
    (h : LWR W tb st 12 n) (hn : n ≠ -1) (h' : LWR W' tb' st' 12 n') : n' ≤ n := by
  obtain ⟨_, ks, hks, rfl⟩ := lwr_num h hn
  rcases h' with ⟨_, rfl⟩ | ⟨_, ks', hks', h3⟩
  · rcases num_range O Tw hks with ⟨h1, _⟩ | h1 <;> omega
  · rw [h3]
    exact num_mono E hf O O' Tw Tw' hr hst hks hks' (fun p hp => inW_allP hp)
theorem lwr_rot {N : Int} {pds : List PartD} {b : Nat} (hb : b ≤ pds.length) (O : WOk (wdF N pds)) (O' : WOk (wdF N (pds.drop b ++ pds.take b))) (Tw : TbWf tb) (h : LWR (wdF N pds) tb st 12 n) (hn : n ≠ -1) (h' : LWR (wdF N (pds.drop b ++ pds.take b)) tb st 12 n') : n' = n := by
  obtain ⟨hF, ks, hks, rfl⟩ := lwr_num h hn
  rcases h' with ⟨hF', _⟩ | ⟨_, ks', hks', h3⟩
  · exact absurd (rot_few hb O' Tw hF) hF'
  · rw [h3]
    exact rot_num hb O O' Tw hks hks'
theorem lwr_cut {m : Nat} (hm : m ≤ 12) (O : WOk W) (Tw : TbWf tb) (h : LWR W tb st 12 n) (hn : n ≠ -1) (h' : LWR W tb st m n') : n' = if n > m then 99 else n := by
  obtain ⟨hF, ks, hks, rfl⟩ := lwr_num h hn
  rcases h' with ⟨hF', _⟩ | ⟨_, ks', hks', h3⟩
  · exact absurd hF hF'
  · rw [h3, num_cut hm]
    have e := num_uniq O Tw hks hks'
    show (if numW W tb st ks' > m then 99 else numW W tb st ks') = _
    rw [e]
end
end L2.Jw
set_option Elab.async false
set_option linter.all false
set_option maxRecDepth 100000
set_option maxHeartbeats 4000000
namespace L2.Jw
open PySem PySem.Spec PyProof.Rows
/-! ### for law's walk -/
section
variable {P : Program} {w : World} {K : PySem.W.Frag} {mg : Str → Option Value} {base : Heap} {c : Cs}
theorem bx {D : Addr} {H H' : Hp} {acc : List V} (e : But D H H') (hD : H D = some (.lst acc)) {b : Addr} {u : HO} (h : H b = some u) (n : ∀ xs, u ≠ .lst xs) : H' b = some u := e _ _ h (fun z => by
  rw [z, hD] at h
  cases h
  exact n _ rfl)
theorem TurnAt.bx {H H' : Hp} {D a : Addr} {acc : List V} {N per : Int} {rows : List (Int × Int)} (h : TurnAt K c H a N rows per) (e : But D H H') (hD : H D = some (.lst acc)) : TurnAt K c H' a N rows per := by
  obtain ⟨dx, q, h1, h2⟩ := h.ob
  exact ⟨dx, q, Jw.bx e hD h1 (fun x z => by cases z), prs_dp_tk (e.tkeep hD) h2⟩
theorem TurnsAt.bx {H H' : Hp} {D : Addr} {acc : List V} {N : Int} {d : PartD} {kvs : List (Key × V)} (h : TurnsAt K c H N d kvs) (e : But D H H') (hD : H D = some (.lst acc)) : TurnsAt K c H' N d kvs := by
  obtain ⟨t, h1, h2⟩ := h
  refine ⟨t, h1.bx e hD, ?_⟩
  cases hp : d.push with
  | none => rw [hp] at h2; exact h2
  | some p =>
    rw [hp] at h2
    obtain ⟨t2, r2, g1, g2⟩ := h2
    exact ⟨t2, r2, g1.bx e hD, g2⟩
theorem PartAt.bx {H H' : Hp} {D a : Addr} {acc : List V} {N : Int} {d : PartD} (h : PartAt K c H a N d) (e : But D H H') (hD : H D = some (.lst acc)) : PartAt K c H' a N d := by
  obtain ⟨dx, q, td, kvs, h1, h2, h3, h4⟩ := h.ob
  exact ⟨dx, q, td, kvs, Jw.bx e hD h1 (fun x z => by cases z), e.tkeep hD _ _ h2, Jw.bx e hD h3 (fun x z => by cases z), h4.bx e hD⟩
/-- a pool is none of a kind's things -/
theorem RowsAt.off {H H' : Hp} {p l : Addr} {rows : List (Int × Int)} (h : RowsAt K H l rows) (hne : rows ≠ []) (hp : PoolAt H p) (e : But p H H') : RowsAt K H' l rows := by
  obtain ⟨xs, h1, h2⟩ := h
  obtain ⟨ys, g1, a1, a2, a3, rfl⟩ := hp
  have hl : l ≠ p := fun z => by
    rw [z, g1] at h1
    cases h1
    cases rows with
    | nil => exact hne rfl
    | cons r rs => cases h2 with | cons h _ => cases h
  exact ⟨xs, e _ _ h1 hl, prs_tkeep (e.tkeep g1) h2⟩
theorem KindAt.off {H H' : Hp} {p a : Addr} {N : Int} (nev : N % 2 = 0) (h : KindAt K H a N) (hp : PoolAt H p) (e : But p H H') : KindAt K H' a N := by
  obtain ⟨dp, wl, ls, lp, rows, L, gap, h1, h2, h3, h4, h5, h6, h7, h8⟩ := h.ob
  have hpp := hp
  obtain ⟨ys, g1, a1, a2, a3, rfl⟩ := hp
  have ne : ∀ {rows : List (Int × Int)} {L : Int}, RowsOk N L 4 rows → rows ≠ [] := fun {rows L} h z => by
    have := h.good.lo
    rw [z] at this
    cases this
  refine ⟨dp, wl, ls, lp, rows, L, gap, bx e g1 h1 (fun x z => by cases z), bx e g1 h2 (fun x z => by cases z), h3.off (ne h4) hpp e, h4, h5, e _ _ h6 (fun z => ?_), h7, fun l hl => ?_⟩
  · rw [z, g1] at h6
    have h9 : [V.int a1, V.int a2, V.int a3] = gap.map V.int := HO.lst.inj (Option.some.inj h6)
    have h10 : 3 = gap.length := by
      have := congrArg List.length h9
      rw [List.length_map] at this
      exact this
    have h11 := h7.len
    omega
  · obtain ⟨prow, L2, q1, q2⟩ := h8 l hl
    exact ⟨prow, L2, q1.off (ne q2) hpp e, q2⟩
/-- parts out of a list comprehension -/
theorem parts_of {H : Hp} {N : Int} : ∀ {l : List Nat} {acc : List V}, Paired (fun (_ : Nat) y => ∃ a pd, y = V.ref a ∧ PartOk N pd ∧ PartAt K c H a N pd) l acc → ∃ pds : List PartD, pds.length = l.length ∧ (∀ d ∈ pds, PartOk N d) ∧ Paired (fun (pd : PartD) (v : V) => ∃ a, v = .ref a ∧ PartAt K c H a N pd) pds acc
  | _, _, .nil => ⟨[], rfl, (fun d h => by cases h), .nil⟩
  | _, _, .cons ⟨a, pd, h1, h2, h3⟩ t => by
    obtain ⟨pds, g1, g2, g3⟩ := parts_of t
    refine ⟨pd :: pds, by rw [List.length_cons, List.length_cons, g1], fun d hd => ?_, .cons ⟨a, h1, h3⟩ g3⟩
    rcases List.mem_cons.mp hd with z | z
    · rw [z]; exact h2
    · exact g2 d z
theorem cut_take {xs : List V} {b : Nat} : cutV xs none (some (b : Int)) = xs.take b := by
  unfold cutV
  rw [HT.sIx_none, HT.sIx_nat, List.drop_zero, Nat.sub_zero]
  rcases Nat.le_total b xs.length with h | h
  · rw [Nat.min_eq_left h]
  · rw [Nat.min_eq_right h, List.take_length, List.take_of_length_le h]
theorem cut_drop {xs : List V} {b : Nat} : cutV xs (some (b : Int)) none = xs.drop b := by
  unfold cutV
  rw [HT.sIx_none, HT.sIx_nat]
  rcases Nat.le_total b xs.length with h | h
  · rw [Nat.min_eq_left h, List.take_of_length_le (by rw [List.length_drop]; exact Nat.le_refl _)]
  · rw [Nat.min_eq_right h, List.drop_length, List.drop_of_length_le h, List.take_nil]
theorem paired_take {α β : Type} {F : α → β → Prop} : ∀ {xs : List α} {ys : List β} (n : Nat), Paired F xs ys → Paired F (xs.take n) (ys.take n)
  | _, _, 0, _ => .nil
  | _, _, _ + 1, .nil => .nil
  | _, _, n + 1, .cons a t => .cons a (paired_take n t)
theorem paired_drop {α β : Type} {F : α → β → Prop} : ∀ {xs : List α} {ys : List β} (n : Nat), Paired F xs ys → Paired F (xs.drop n) (ys.drop n)
  | _, _, 0, h => h
  | _, _, _ + 1, .nil => .nil
  | _, _, n + 1, .cons _ t => paired_drop n t
theorem paired_app {α β : Type} {F : α → β → Prop} : ∀ {xs zs : List α} {ys us : List β}, Paired F xs ys → Paired F zs us → Paired F (xs ++ zs) (ys ++ us)
  | _, _, _, _, .nil, h => h
  | _, _, _, _, .cons a t, h => .cons a (paired_app t h)
theorem KX.lst {H H' : Hp} (e : KX H H') {l : Addr} {xs : List V} (h : H l = some (.lst xs)) : H' l = some (.lst xs) := e _ _ h (fun x z => by cases z)
/-! ### lists as data -/
theorem prL_shaped (zs : List (Int × Int)) : SeqAt.shaped (.list (zs.map prD)) = true := by
  have h1 := prDs_depth zs
  have h2 : PyData.depth (.list (zs.map prD)) ≤ 64 := by
    simp only [PyData.depth]
    omega
  show (PyData.canLay0 (.list (zs.map prD)) && decide (PyData.depth (.list (zs.map prD)) ≤ 64)) = true
  rw [Bool.and_eq_true]
  exact ⟨by simp only [PyData.canLay0]; exact prDs_lay zs, decide_eq_true h2⟩
def wayD (e : List (Int × Int) × Int) : PyData := .tuple [.list (e.1.map prD), .int e.2]
theorem wayD_depth (e : List (Int × Int) × Int) : (wayD e).depth ≤ 3 := by
  have h := prDs_depth e.1
  simp only [wayD, PyData.depth, PyData.depthAll]
  omega
theorem wayDs_depth : ∀ es : List (List (Int × Int) × Int), PyData.depthAll (es.map wayD) ≤ 3
  | [] => by simp [PyData.depthAll]
  | e :: es => by
    have h1 := wayDs_depth es
    have h2 := wayD_depth e
    simp only [List.map_cons, PyData.depthAll]
    omega
theorem wayD_lay (e : List (Int × Int) × Int) : (wayD e).canLay0 = true := by
  simp [wayD, PyData.canLay0, PyData.canLayAll0, prDs_lay e.1]
theorem wayDs_lay : ∀ es : List (List (Int × Int) × Int), PyData.canLayAll0 (es.map wayD) = true
  | [] => by simp [PyData.canLayAll0]
  | e :: es => by simp [PyData.canLayAll0, wayD_lay e, wayDs_lay es]
theorem wayL_shaped (es : List (List (Int × Int) × Int)) : SeqAt.shaped (.list (es.map wayD)) = true := by
  have h1 := wayDs_depth es
  have h2 : PyData.depth (.list (es.map wayD)) ≤ 64 := by
    simp only [PyData.depth]
    omega
  show (PyData.canLay0 (.list (es.map wayD)) && decide (PyData.depth (.list (es.map wayD)) ≤ 64)) = true
  rw [Bool.and_eq_true]
  exact ⟨by simp only [PyData.canLay0]; exact wayDs_lay es, decide_eq_true h2⟩
theorem eqv_nil {d : PyData} {ds : List PyData} : PyData.eqv (.list (d :: ds)) (.list []) = false := by simp [PyData.eqv, PyData.eqvAll]
theorem nil_shaped : SeqAt.shaped (.list []) = true := by decide +kernel
theorem eqv_nil0 : PyData.eqv (.list []) (.list []) = true := by simp [PyData.eqv, PyData.eqvAll]
theorem ways_dp {H : Hp} : ∀ {found : List (List (Int × Int) × Int)} {ys : List V}, Paired (FndAt K H) found ys → DpAll K H ys (found.map wayD)
  | _, _, .nil => .nil
  | _, _, .cons ⟨a, l, xs, h1, h2, h3, h4⟩ t => by
    rw [List.map_cons]
    refine .cons ?_ (ways_dp t)
    rw [h1]
    exact .tup h2 (.cons (.lst (SqL.of h3) h4) (.cons (.int _) .nil))
theorem FndAt.same {H H' : Hp} {e : List (Int × Int) × Int} {v : V} (h : FndAt K H e v) (s : Same H H') : FndAt K H' e v := by
  obtain ⟨a, l, xs, h1, h2, h3, h4⟩ := h
  exact ⟨a, l, xs, h1, same_sqT s h2, s _ _ h3, dpAll_same s _ _ h4⟩
theorem join {F M : Hp → Prop} {G : Prop} (h1 : (∀ H, M H → F H) → G) (h2 : ∀ H, M H → F H) : G := h1 h2
end
end L2.Jw
set_option Elab.async false
set_option linter.all false
set_option maxRecDepth 100000
set_option maxHeartbeats 4000000
namespace L2.Jw
open PySem PySem.Spec PyProof.Rows
section
variable {P : Program} {w : World} {K : PySem.W.Frag} {mg : Str → Option Value} {base : Heap} {c : Cs}
/-! ### the end of law: the ways down the tree -/
def tWays (K : PySem.W.Frag) (c : Cs) : TS :=
  tSeq (tFor (iList K (tVar 17)) (gName 18)
    (tSeq (tAsg (tD (spFits K c) E0 (tCons (tVar 9) (tCons (tOp (rIxT K) (tVar 18) (tC (.int 0))) tNil))) (gName 19))
      (tIfS (tOr (tTest (tOp (rEqD K) (tVar 19) (tLst tNil)))
          (tTest (tOp (rNeD K) (tLc (iList K (tVar 19)) (gName 21) (tTest (tOp rNe (tOp (rIxT K) (tVar 21) (tC (.int 0))) (tOp (rIxT K) (tVar 18) (tC (.int 1))))) (tVar 21) [21]) (tLst tNil))))
        (tRet (tC (.bl false))) tNext)))
  (tRet (tOp (rNeD K) (tVar 17) (tLst tNil)))
theorem ways_ok {D : Ends} (q : ∀ H, D.rt (.bl true) H) {H : Hp} {pa l : Addr} {N : Int} {pds : List PartD} {ys : List V} {found : List (List (Int × Int) × Int)} {t : GT} {x0 x1 x2 x3 x4 x5 x6 x7 x8 x10 x11 x12 x13 x14 x15 x16 : Option V}
    (hP : PartsAt K c H pa N pds) (l1 : 1 ≤ pds.length) (l3 : pds.length ≤ 3) (hok : ∀ d ∈ pds, PartOk N d) (hl : H l = some (.lst ys)) (hp : Paired (FndAt K H) found ys) (hne : found ≠ []) (hlen : found.length ≤ 4000)
    (hw : ∀ e ∈ found, e.1.length ≤ 12 ∧ Path t e.1 (.kind e.2)) (hr : RightT (wdF N pds) 0 (allP (wdF N pds)) t) :
    tWays K c D [x0, x1, x2, x3, x4, x5, x6, x7, x8, some (.ref pa), x10, x11, x12, x13, x14, x15, x16, some (.ref l), none, none, none, none] H := by
  have hyl : ys.length = found.length := (Paired.len hp).symm
  refine ⟨_, rfl, l, rfl, ⟨_, SqL.of hl⟩, for_it walk_list (fun i σ H2 => Same H H2 ∧ ∃ x18 x19 : Option V, σ = [x0, x1, x2, x3, x4, x5, x6, x7, x8, some (.ref pa), x10, x11, x12, x13, x14, x15, x16, some (.ref l), x18, x19, none, none])
    ⟨Same.refl H, none, none, rfl⟩ (fun i σ H2 _ z => SqL.of (z.1 _ _ hl)) ?_ ?_⟩
  · rintro i y σ H2' H2 hi ⟨e2, x18, x19, rfl⟩ ⟨rfl, hy⟩
    obtain ⟨e, he, hf⟩ := paired_get hp hy
    obtain ⟨ea, el, xs, rfl, h1, h2, h3⟩ := hf.same e2
    obtain ⟨w1, w2⟩ := hw e (List.mem_of_getElem? he)
    obtain ⟨f1, f2⟩ := right_fits hr w2
    refine ⟨_, rfl, _, rfl, ea, _, _, _, rfl, rfl, h1, atI0, pa, el, N, pds, xs, e.1, rfl, hP.same e2, l1, l3, hok, h2, h3, by omega, fun H3 r zs e3 hr3 hd3 => ?_⟩
    obtain ⟨z0, zr, hz⟩ := List.exists_cons_of_ne_nil f1
    have hzl : zs.length = (fitsF (wdF N pds) e.1).length := by have := dpAll_len hd3; rw [List.length_map] at this; exact this
    have hz2 : zs.length ≤ 1000000 := by
      have hi' : fitsF (wdF N pds) e.1 = fitsF (wdF N pds) e.1 := rfl
      have h144 : (fitL (wdF N pds) 0 (triP (wdF N pds)) e.1).length ≤ 144 := by
        have : ∀ (log : List (Int × Int)) (last : Int) (l : List Tri), (fitL (wdF N pds) last l log).length ≤ l.length := by
          intro log
          induction log with
          | nil => intro last l; exact Nat.le_refl _
          | cons e r ih => intro last l; exact Nat.le_trans (ih _ _) (still_len ..)
        refine Nat.le_trans (this e.1 0 _) ?_
        unfold triP
        rw [List.length_map]
        exact len_allP (wOk l1 l3 hok)
      have : (fitsF (wdF N pds) e.1).length ≤ 144 := by
        unfold fitsF
        rw [List.length_map]
        exact h144
      omega
    refine ⟨_, rfl, (by show 0 ≤ sizeLine; decide), fun n1 hn1 => ?_⟩
    have s1 := same_new (o := .lst []) hn1
    refine ⟨_, _, .lst (SqL.of (s1 _ _ hr3)) (dpAll_same s1 _ _ hd3), .lst (SqL.of upd_same) .nil, prL_shaped _, nil_shaped, _, rfl, ?_⟩
    rw [hz, List.map_cons, eqv_nil]
    refine iteF ?_
    refine ⟨_, rfl, r, rfl, ⟨_, SqL.of (s1 _ _ hr3)⟩, fun A hA => lc_fm (α := Unit) walk_list (fun _ => none) (fun _ _ _ => True) hA (fun H4 e4 => SqL.of (e4 _ _ (s1 _ _ hr3))) hz2 (fun _ _ _ _ _ _ _ _ => True.intro) ?_ ?_⟩
    · rintro j x H4' H4 Cy Cn hj e4 ⟨rfl, hx⟩ _ hC
      obtain ⟨pr, hpr, hdx⟩ := dpAll_item hd3 hx
      obtain ⟨qa, rfl, hqa⟩ := dp_pr hdx
      have hk := f2 pr (List.mem_of_getElem? hpr)
      refine ⟨rfl, _, rfl, qa, _, _, _, rfl, rfl, same_sqT (s1.trans e4) hqa, atI0, _, rfl, ea, _, _, _, rfl, rfl, same_sqT ((e3.trans s1).trans e4) h1, atI1, rfl, _, rfl, inD (congrArg V.int hk) (hC rfl _ (Same.refl _))⟩
    · intro H4 acc e4 hacc hpd
      have hz0 : (List.range zs.length).filterMap (fun _ => (none : Option Unit)) = [] := by
        rw [List.filterMap_eq_nil_iff]
        intro _ _
        rfl
      rw [hz0] at hpd
      cases hpd
      refine ⟨(by show 0 ≤ sizeLine; decide), fun n2 hn2 => ?_⟩
      have s2 := same_new (o := .lst []) hn2
      refine ⟨_, _, .lst (SqL.of (s2 _ _ hacc)) .nil, .lst (SqL.of upd_same) .nil, nil_shaped, nil_shaped, _, rfl, ?_⟩
      rw [eqv_nil0]
      exact ⟨(((e2.trans e3).trans s1).trans e4).trans s2, _, _, rfl⟩
  · rintro σ H2 ⟨e2, x18, x19, rfl⟩
    obtain ⟨z0, zr, hz⟩ := List.exists_cons_of_ne_nil hne
    refine ⟨_, rfl, (by show 0 ≤ sizeLine; decide), fun n1 hn1 => ?_⟩
    have s1 := same_new (o := .lst []) hn1
    have e12 := e2.trans s1
    refine ⟨_, _, .lst (SqL.of (e12 _ _ hl)) (ways_dp (Paired.mapP hp fun _ _ z => z.same e12)), .lst (SqL.of upd_same) .nil, wayL_shaped _, nil_shaped, ?_⟩
    rw [hz, List.map_cons, eqv_nil]
    exact q _
end
end L2.Jw
set_option Elab.async false
set_option linter.all false
set_option maxRecDepth 100000
set_option maxHeartbeats 4000000
namespace L2.Jw
open PySem PySem.Spec PyProof.Rows
section
variable {P : Program} {w : World} {K : PySem.W.Frag} {mg : Str → Option Value} {base : Heap} {c : Cs}
/-! ### the end of law, from the tree on -/
def tEnd (K : PySem.W.Frag) (c : Cs) : TS :=
  tSeq (tAsg (tD (spLT K c) E0 (tCons (tVar 9) (tCons (tVar 10) (tCons (tVar 4) tNil)))) (gName 16))
    (tSeq (tIfS (tTest (tOp (fun x y H Q => y = V.non ∧ Q (V.bl (decide (x = V.non))) H) (tVar 16) (tC V.non))) (tRet (tOp rEq (tVar 12) (tC (.int 99)))) tNext)
      (tSeq (tAsg (tD (spWays K) E0 (tCons (tVar 16) tNil)) (gName 17)) (tWays K c)))
theorem end_ok {D : Ends} (q : ∀ H, D.rt (.bl true) H) {H : Hp} {pa la : Addr} {N w0 : Int} {pds : List PartD} {tb : Tb} {st : Bool} {x0 x1 x2 x3 x5 x6 x7 x8 x11 x13 x14 x15 : Option V}
    (hP : PartsAt K c H pa N pds) (l1 : 1 ≤ pds.length) (l3 : pds.length ≤ 3) (hok : ∀ d ∈ pds, PartOk N d) (hL : LetAt K c H la N tb) (t5 : tb.length ≤ 5) (t7 : ∀ q ∈ tb, q.2.length ≤ 7) (Tw : TbWf tb) (hw0 : LWR (wdF N pds) tb st 12 w0) (hne : w0 ≠ -1) :
    tEnd K c D [x0, x1, x2, x3, some (.bl st), x5, x6, x7, x8, some (.ref pa), some (.ref la), x11, some (.int w0), x13, x14, x15, none, none, none, none, none, none] H := by
  have O := wOk l1 l3 hok
  obtain ⟨hF, ks, hks, he0⟩ := lwr_num hw0 hne
  refine ⟨_, rfl, _, rfl, _, rfl, pa, la, N, pds, tb, st, rfl, hP, l1, l3, hok, hL, t5, t7, Tw, fun H1 v k1 ht => ?_⟩
  rcases ht with ⟨hF', _⟩ | ⟨_, ks', hks', ht⟩
  · exact absurd hF hF'
  · have hu := num_uniq O Tw hks hks'
    rcases ht with ⟨hn, rfl⟩ | ⟨n, hn, ht⟩
    · refine ⟨_, rfl, rfl, _, rfl, itD rfl ?_⟩
      refine ⟨_, rfl, rfl, qT ?_ (q _)⟩
      have : numW (wdF N pds) tb st ks' = 99 := by
        unfold numW
        have hn' : numF (weighF (wdF N pds) tb st ks' 12) (rootF (wdF N pds) tb) (toldF (wdF N pds) st (allP (wdF N pds))) 12 = none := hn
        rw [hn']
        rfl
      rw [he0, ← hu, this]
    · obtain ⟨g1, g2, g3⟩ := the_tree O Tw hks' (n := n) hn
      have hv : v ≠ .non := by
        rintro rfl
        cases ht
      refine ⟨_, rfl, rfl, _, rfl, itN hv ?_⟩
      refine ⟨_, rfl, v, _, rfl, ht, g1, g2, fun H2 l ys found e2 hl hp hfn hfl hw => ?_⟩
      exact ways_ok q ((hP.kx k1).same e2) l1 l3 hok hl hp hfn hfl hw g3
def tDue (K : PySem.W.Frag) (c : Cs) : TS :=
  tSeq (tIfS (tTest (tOp rNe (tD (spLW K c) E0 (tCons (tOp rCat (tSl (rSlL K) (tVar 9) (tPart (tVar 6)) tNoPart) (tSl (rSlL K) (tVar 9) tNoPart (tPart (tVar 6)))) (tCons (tVar 10) (tCons (tC (.int 12)) (tCons (tVar 4) tNil))))) (tVar 12))) (tRet (tC (.bl false))) tNext)
    (tSeq (tAsg (tVar 12) (gName 15))
      (tSeq (tIfS (tTest (tOp (rI0 fun i j => V.bl (decide (j < i))) (tVar 12) (tVar 5))) (tAsg (tC (.int 99)) (gName 15)) tNext)
        (tSeq (tIfS (tTest (tOp rNe (tD (spLW K c) E0 (tCons (tVar 9) (tCons (tVar 10) (tCons (tVar 5) (tCons (tVar 4) tNil))))) (tVar 15))) (tRet (tC (.bl false))) tNext)
          (tEnd K c))))
theorem due_ok {D : Ends} (q : ∀ H, D.rt (.bl true) H) {H : Hp} {pa la : Addr} {N w0 : Int} {m b : Nat} {pds : List PartD} {tb : Tb} {st : Bool} {x0 x1 x2 x3 x7 x8 x11 x13 x14 : Option V} (hm : m ≤ 12) (hb : b < pds.length)
    (hP : PartsAt K c H pa N pds) (l1 : 1 ≤ pds.length) (l3 : pds.length ≤ 3) (hok : ∀ d ∈ pds, PartOk N d) (hL : LetAt K c H la N tb) (t5 : tb.length ≤ 5) (t7 : ∀ q ∈ tb, q.2.length ≤ 7) (Tw : TbWf tb) (hw0 : LWR (wdF N pds) tb st 12 w0) (hne : w0 ≠ -1) :
    tDue K c D [x0, x1, x2, x3, some (.bl st), some (.int m), some (.int b), x7, x8, some (.ref pa), some (.ref la), x11, some (.int w0), x13, x14, none, none, none, none, none, none, none] H := by
  have O := wOk l1 l3 hok
  obtain ⟨acc, hD, hpp⟩ := id hP.ob
  have el : acc.length = pds.length := (Paired.len hpp).symm
  refine ⟨_, rfl, _, rfl, (b : Int), rfl, pa, acc, rfl, SqL.of hD, fun q1 hq1 => ?_⟩
  rw [cut_drop]
  have s1 := same_new (o := .lst (acc.drop b)) hq1
  refine ⟨_, rfl, _, rfl, (b : Int), rfl, pa, acc, rfl, SqL.of (s1 _ _ hD), fun q2 hq2 => ?_⟩
  rw [cut_take]
  refine ⟨q1, q2, acc.drop b, acc.take b, rfl, rfl, (same_new hq2) _ _ upd_same, upd_same, (by rw [List.length_take, List.length_drop, sizeLine_eq]; omega), fun q3 hq3 => ?_⟩
  have s3 := (s1.trans (same_new (o := .lst (acc.take b)) hq2)).trans (same_new (o := .lst (acc.drop b ++ acc.take b)) hq3)
  have hq3' : upd (upd (upd H q1 (.lst (acc.drop b))) q2 (.lst (acc.take b))) q3 (.lst (acc.drop b ++ acc.take b)) q3 = some (.lst (acc.drop b ++ acc.take b)) := upd_same
  generalize upd (upd (upd H q1 (.lst (acc.drop b))) q2 (.lst (acc.take b))) q3 (.lst (acc.drop b ++ acc.take b)) = H3 at hq3' s3
  have hpp3 : Paired (fun (pd : PartD) (v : V) => ∃ a, v = .ref a ∧ PartAt K c H3 a N pd) pds acc := Paired.mapP hpp fun _ _ ⟨a, h1, h2⟩ => ⟨a, h1, h2.same s3⟩
  have hP3 : PartsAt K c H3 q3 N (pds.drop b ++ pds.take b) := ⟨⟨_, hq3', paired_app (paired_drop b hpp3) (paired_take b hpp3)⟩⟩
  have hlen3 : (pds.drop b ++ pds.take b).length = pds.length := by rw [List.length_append, List.length_take, List.length_drop]; omega
  have hok3 : ∀ d ∈ pds.drop b ++ pds.take b, PartOk N d := fun d hd => (List.mem_append.mp hd).elim (fun z => hok d (List.mem_of_mem_drop z)) fun z => hok d (List.mem_of_mem_take z)
  have l13 : 1 ≤ (pds.drop b ++ pds.take b).length := by omega
  have l33 : (pds.drop b ++ pds.take b).length ≤ 3 := by omega
  refine ⟨_, rfl, _, rfl, q3, la, N, pds.drop b ++ pds.take b, tb, 12, st, rfl, by decide, hP3, l13, l33, hok3, hL.same s3, t5, t7, Tw, fun H4 w4 k4 hw4 => ?_⟩
  have e4 := lwr_rot (by omega) O (wOk l13 l33 hok3) Tw hw0 hne hw4
  refine ⟨_, rfl, rfl, _, rfl, inD (congrArg V.int e4) ?_⟩
  have k04 : KX H H4 := (KX.of s3).trans k4
  refine ⟨_, rfl, ?_⟩
  refine ⟨_, rfl, _, rfl, _, _, rfl, rfl, _, rfl, ite2 (fun hc => ?_) (fun hc => ?_)⟩
  · have hc' : (m : Int) < w0 := of_decide_eq_true hc
    refine ⟨_, rfl, _, rfl, _, rfl, _, rfl, pa, la, N, pds, tb, m, st, rfl, hm, hP.kx k04, l1, l3, hok, hL.kx k04, t5, t7, Tw, fun H5 w5 k5 hw5 => ?_⟩
    have e5 := lwr_cut hm O Tw hw0 hne hw5
    rw [if_pos hc'] at e5
    refine ⟨_, rfl, rfl, _, rfl, inD (congrArg V.int e5) ?_⟩
    exact end_ok q ((hP.kx k04).kx k5) l1 l3 hok ((hL.kx k04).kx k5) t5 t7 Tw hw0 hne
  · have hc' : ¬ w0 > (m : Int) := fun z => hc (decide_eq_true z)
    refine ⟨_, rfl, _, rfl, _, rfl, _, rfl, pa, la, N, pds, tb, m, st, rfl, hm, hP.kx k04, l1, l3, hok, hL.kx k04, t5, t7, Tw, fun H5 w5 k5 hw5 => ?_⟩
    have e5 := lwr_cut hm O Tw hw0 hne hw5
    rw [if_neg hc'] at e5
    refine ⟨_, rfl, rfl, _, rfl, inD (congrArg V.int e5) ?_⟩
    exact end_ok q ((hP.kx k04).kx k5) l1 l3 hok ((hL.kx k04).kx k5) t5 t7 Tw hw0 hne
end
end L2.Jw
set_option Elab.async false
set_option linter.all false
set_option maxRecDepth 100000
set_option maxHeartbeats 4000000
namespace L2.Jw
open PySem PySem.Spec PyProof.Rows
section
variable {P : Program} {w : World} {K : PySem.W.Frag} {mg : Str → Option Value} {base : Heap} {c : Cs}
/-! ### law -/
abbrev NL0 : List Str := ["_law_script", "_law_sizes", "_law_around", "_law_many", "_law_settled", "_law_most", "_law_by", "_law_kinds"]
abbrev NL1 : List Str := ["_law_rules_here", "_law_parts", "_law_let", "_law_wider", "_law_worst_here", "_law_easier", "_law_number"]
abbrev NL2 : List Str := ["_law_due", "_law_tree_here", "_law_ways_here", "_law_way", "_law_pairs", "_law_kind", "_law_pair"]
abbrev NL : List Str := NL0 ++ (NL1 ++ NL2)
def spLaw (K : PySem.W.Frag) : Sp := fun vs H Q _ => ∃ (a : Addr) (ns : List Int), vs = [.ref a] ∧ SqL K H a (ns.map V.int) ∧ ∀ H', Q (.bl true) H'
abbrev s_law : Stmt := top 76
theorem c_law : FnScope NL ["_law_script"] (defScope s_law) := ⟨rfl, rfl, rfl, by decide +kernel, rfl, by decide +kernel, by decide +kernel⟩
theorem b_law : Bnd0 "law" "law" s_law ["_law_script"] := fun _ _ _ _ _ _ us hl => match us, hl with | [_], _ => rfl
theorem sOf_ok {st : Int} (h : st = 1 ∨ st = 2) : (sOf st).Nodup ∧ 1 ≤ (sOf st).length ∧ (sOf st).length ≤ 5 ∧ ("start" : Str) ∈ sOf st ∧ ∀ s ∈ sOf st, okName s := by
  rcases h with z | z
  · rw [z]
    unfold sOf
    rw [if_pos rfl]
    refine ⟨by decide +kernel, by decide, by decide, List.mem_singleton.mpr rfl, fun s hs => ?_⟩
    rw [List.mem_singleton.mp hs]
    exact okName_start
  · rw [z]
    unfold sOf
    rw [if_neg (by decide)]
    refine ⟨by decide +kernel, by decide, by decide, List.mem_cons_self, fun s hs => ?_⟩
    rcases List.mem_cons.mp hs with e | e
    · rw [e]
      exact okName_start
    · rw [List.mem_singleton.mp e]
      exact okName_b
theorem f_law {f : Addr} {fd : FuncData} (T : Tx K mg c) (F : FnP K "law" "law" s_law [] [] f fd) : FnOk P w K mg base CX0 19 f fd ["_law_script"] (spLaw K) := by
  refine F.ok (k := 18) c_law (fun vs H Q E h => ?_) fun cdv A outer s H vs Q E hr h => ?_
  · obtain ⟨a, ns, rfl, _⟩ := h
    rfl
  · obtain ⟨a, ns, rfl, hS, q⟩ := h
    refine ⟨_, PSs.nox (pss_cons (ps_set (i := 1) c_law.nd rfl (Or.inl rfl) (pe_D (d__law_pool T) (hr.mono (by first | decide | omega)) rfl pass0 (pa_cons (pv 0) (pa_cons pe_int pa_nil))))
      (pss_cons (ps_set (i := 2) c_law.nd rfl (Or.inr rfl) (pe_op op_add pe_int (pe_op op_mul pe_int (pe_D (d__law_draw T) (hr.mono (by first | decide | omega)) rfl pass0 (pa_cons (pv 1) (pa_cons pe_int pa_nil))))))
      (pss_cons (ps_set (i := 3) c_law.nd rfl (Or.inl rfl) (pe_op op_add pe_int (pe_D (d__law_draw T) (hr.mono (by first | decide | omega)) rfl pass0 (pa_cons (pv 1) (pa_cons pe_int pa_nil)))))
      (pss_cons (ps_set (i := 4) c_law.nd rfl (Or.inl rfl) (pe_cmpR op_eq (pe_D (d__law_draw T) (hr.mono (by first | decide | omega)) rfl pass0 (pa_cons (pv 1) (pa_cons pe_int pa_nil))) pe_int (nomark _)))
      (pss_cons (ps_set (i := 5) c_law.nd rfl (Or.inl rfl) (pe_D (d__law_draw T) (hr.mono (by first | decide | omega)) rfl pass0 (pa_cons (pv 1) (pa_cons pe_int pa_nil))))
      (pss_cons (ps_set (i := 6) c_law.nd rfl (Or.inl rfl) (pe_D (d__law_draw T) (hr.mono (by first | decide | omega)) rfl pass0 (pa_cons (pv 1) (pa_cons (pv 3) pa_nil))))
      (pss_cons (ps_set (i := 7) c_law.nd rfl (Or.inl rfl) (pe_D (d__law_shown T) (hr.mono (by first | decide | omega)) rfl pass0 (pa_cons (pv 0) (pa_cons pe_int (pa_cons (pv 3) (pa_cons (pv 2) (pa_cons pe_int pa_nil)))))))
      (pss_cons (ps_set (i := 8) c_law.nd rfl (Or.inl rfl) (pe_D (d__law_rules T) (hr.mono (by first | decide | omega)) rfl pass0 (pa_cons (pe_D (d__law_pool T) (hr.mono (by first | decide | omega)) rfl pass0 (pa_cons (pv 0) (pa_cons pe_int pa_nil))) (pa_cons (pv 2) (pa_cons (pe_lst (pa_cons pe_str pa_nil)) (pa_cons (pe_op op_add pe_int (pe_D (d__law_draw T) (hr.mono (by first | decide | omega)) rfl pass0 (pa_cons (pv 1) (pa_cons pe_int pa_nil)))) (pa_cons pe_int pa_nil)))))))
      (pss_cons (ps_setLc (i := 9) (own := [("_law_kind", 20)]) (g := (gName 20)) (tt := tYes) (by rfl) c_law.nd rfl rfl (sw_true rfl rfl rfl (by decide +kernel)) (pi_list (pv 7)) (blkOk_by (own := [("_law_kind", 20)]) (N := NL) (sc := defScope s_law) (by decide +kernel)) (fun _ _ _ _ _ => (pg_name (i := 20) c_law.nd rfl (Or.inl rfl))) (fun _ _ _ _ _ => pts_nil) (fun _ _ _ _ _ => (pe_D (d__law_shown_part T) (hr.mono (by first | decide | omega)) rfl pass0 (pa_cons (pv 20) (pa_cons (pv 2) pa_nil)))))
      (pss_cons (ps_set (i := 10) c_law.nd rfl (Or.inl rfl) (pe_New (m_Let T) (hr.mono (by first | decide | omega)) rfl pass0 nw_Let (pa_cons (pv 2) (pa_cons (pe_D (d__law_handed T) (hr.mono (by first | decide | omega)) rfl pass0 (pa_cons (pv 8) pa_nil)) pa_nil))))
      (pss_cons (ps_set (i := 11) c_law.nd rfl (Or.inl rfl) (pe_New (m_Let T) (hr.mono (by first | decide | omega)) rfl pass0 nw_Let (pa_cons (pv 2) (pa_cons (pe_D (d__law_more T) (hr.mono (by first | decide | omega)) rfl pass0 (pa_cons (pe_D (d__law_pool T) (hr.mono (by first | decide | omega)) rfl pass0 (pa_cons (pv 0) (pa_cons pe_int pa_nil))) (pa_cons (pv 8) (pa_cons (pv 2) pa_nil)))) pa_nil))))
      (pss_cons (ps_set (i := 12) c_law.nd rfl (Or.inl rfl) (pe_D (d__law_worst T) (hr.mono (by first | decide | omega)) rfl pass0 (pa_cons (pv 9) (pa_cons (pv 10) (pa_cons pe_int (pa_cons (pv 4) pa_nil))))))
      (pss_cons (ps_set (i := 13) c_law.nd rfl (Or.inl rfl) (pe_lst (pa_cons (pe_D (d__law_worst T) (hr.mono (by first | decide | omega)) rfl pass0 (pa_cons (pv 9) (pa_cons (pv 11) (pa_cons pe_int (pa_cons (pv 4) pa_nil))))) (pa_cons (pe_D (d__law_worst T) (hr.mono (by first | decide | omega)) rfl pass0 (pa_cons (pv 9) (pa_cons (pv 10) (pa_cons pe_int (pa_cons pe_bl pa_nil))))) pa_nil))))
      (pss_cons (ps_if (pt_cmpR op_gt (pv 3) pe_int (nomark _)) (pss_one (ps_expr (pe_bm PySem.F.plainAttrs_list PySem.F.slot_list_append PySem.F.type_list_append mt_append (pv 13) (pa_cons (pe_D (d__law_worst T) (hr.mono (by first | decide | omega)) rfl pass0 (pa_cons (pe_op op_cat (pe_slice sl_list (pv 9) po_none (po_some (pv 6))) (pe_slice sl_list (pv 9) (po_some (pe_op op_add (pv 6) pe_int)) po_none)) (pa_cons (pv 10) (pa_cons pe_int (pa_cons (pv 4) pa_nil))))) pa_nil)))) pss_nil)
      (pss_cons (ps_if (pt_cmpR op_eq (pv 12) (pe_un un_neg pe_int) (nomark _)) (pss_one (ps_ret pe_bl)) pss_nil)
      (pss_cons (ps_for PassesOwn.never rfl (pi_list (pv 13)) (pg_name (i := 14) c_law.nd rfl (Or.inl rfl))
      (pss_one (ps_if (pt_cmpR op_gt (pv 14) (pv 12) (nomark _)) (pss_one (ps_ret pe_bl)) pss_nil)))
      (pss_cons (ps_if (pt_cmpR op_ne (pe_D (d__law_worst T) (hr.mono (by first | decide | omega)) rfl pass0 (pa_cons (pe_op op_cat (pe_slice sl_list (pv 9) (po_some (pv 6)) po_none) (pe_slice sl_list (pv 9) po_none (po_some (pv 6)))) (pa_cons (pv 10) (pa_cons pe_int (pa_cons (pv 4) pa_nil))))) (pv 12) (nomark _)) (pss_one (ps_ret pe_bl)) pss_nil)
      (pss_cons (ps_set (i := 15) c_law.nd rfl (Or.inl rfl) (pv 12))
      (pss_cons (ps_if (pt_cmpR op_gt (pv 12) (pv 5) (nomark _)) (pss_one (ps_set (i := 15) c_law.nd rfl (Or.inl rfl) pe_int)) pss_nil)
      (pss_cons (ps_if (pt_cmpR op_ne (pe_D (d__law_worst T) (hr.mono (by first | decide | omega)) rfl pass0 (pa_cons (pv 9) (pa_cons (pv 10) (pa_cons (pv 5) (pa_cons (pv 4) pa_nil))))) (pv 15) (nomark _)) (pss_one (ps_ret pe_bl)) pss_nil)
      (pss_cons (ps_set (i := 16) c_law.nd rfl (Or.inl rfl) (pe_D (d__law_tree T) (hr.mono (by first | decide | omega)) rfl pass0 (pa_cons (pv 9) (pa_cons (pv 10) (pa_cons (pv 4) pa_nil)))))
      (pss_cons (ps_if (pt_cmpR op_isN (pv 16) pe_non (nomark _)) (pss_one (ps_ret (pe_cmpR op_eq (pv 12) pe_int (nomark _)))) pss_nil)
      (pss_cons (ps_set (i := 17) c_law.nd rfl (Or.inl rfl) (pe_D (d__law_ways T) (hr.mono (by first | decide | omega)) rfl pass0 (pa_cons (pv 16) pa_nil)))
      (pss_cons (ps_for PassesOwn.never rfl (pi_list (pv 17)) (pg_name (i := 18) c_law.nd rfl (Or.inr rfl))
      (pss_cons (ps_set (i := 19) c_law.nd rfl (Or.inl rfl) (pe_D (d_fits T) (hr.mono (by first | decide | omega)) rfl pass0 (pa_cons (pv 9) (pa_cons (pe_ix (r := rIxT K) ix_tup (pv 18) pe_int (fun _ _ => rfl)) pa_nil))))
      (pss_one (ps_if (PW.pt (pw_or (pt_cmpR (op_eqD hr.units) (pv 19) (pe_lst pa_nil) (nomark _)) (pw_or1 (pt_cmpR (op_neD hr.units) (pe_lc (own := [("_law_pair", 21)]) (g := (gName 21))  (by rfl) c_law.nd (pi_list (pv 19)) (blkOk_by (own := [("_law_pair", 21)]) (N := NL) (sc := defScope s_law) (by decide +kernel)) (fun _ _ _ _ _ => (pg_name (i := 21) c_law.nd rfl (Or.inl rfl))) (fun _ _ _ _ _ => (pts_one (pt_cmpR op_ne (pe_ix (r := rIxT K) ix_tup (pv 21) pe_int (fun _ _ => rfl)) (pe_ix (r := rIxT K) ix_tup (pv 18) pe_int (fun _ _ => rfl)) (nomark _)))) (fun _ _ _ _ _ => (pv 21))) (pe_lst pa_nil) (nomark _))))) (pss_one (ps_ret pe_bl)) pss_nil))))
      (pss_one (ps_ret (pe_cmpR (op_neD hr.units) (pv 17) (pe_lst pa_nil) (nomark _)))))))))))))))))))))))))))), ?_⟩
    -- the sizes
    refine ⟨_, rfl, a, 0, ns, rfl, by decide, hS, fun p H1 e1 hp hp1 => ?_⟩
    refine ⟨_, rfl, p, 24, rfl, by decide, by decide, hp1, fun r1 H2 ra1 rb1 b2 hp2 => ?_⟩
    have e2 : Same H H2 := b2.same e1 hp
    refine ⟨_, _, rfl, rfl, .inl ⟨by decide, by decide⟩, _, _, rfl, rfl, ?_⟩
    show gName 2 (V.int (2 + 2 * r1)) _ _ _
    generalize hN : 2 + 2 * r1 = N
    have n2 : 2 ≤ N := by omega
    have n48 : N ≤ 48 := by omega
    have nev : N % 2 = 0 := by omega
    refine ⟨_, rfl, p, 3, rfl, by decide, by decide, hp2, fun r2 H3 ra2 rb2 b3 hp3 => ⟨_, _, rfl, rfl, ?_⟩⟩
    have e3 : Same H H3 := b3.same e2 hp
    refine ⟨_, rfl, p, 3, rfl, by decide, by decide, hp3, fun r3 H4 _ _ b4 hp4 => ⟨rfl, ?_⟩⟩
    have e4 : Same H H4 := b4.same e3 hp
    show gName 4 (V.bl (decide (V.int r3 = V.int 0))) _ _ _
    generalize hst : decide (V.int r3 = V.int 0) = st
    refine ⟨_, rfl, p, 13, rfl, by decide, by decide, hp4, fun r4 H5 ra4 rb4 b5 hp5 => ?_⟩
    have e5 : Same H H5 := b5.same e4 hp
    obtain ⟨m, rfl⟩ : ∃ m : Nat, r4 = m := ⟨r4.toNat, by omega⟩
    have hm12 : m ≤ 12 := by omega
    refine ⟨_, rfl, _, rfl, p, 1 + r2, rfl, by omega, by omega, hp5, fun r5 H6 ra5 rb5 b6 hp6 => ?_⟩
    have e6 : Same H H6 := b6.same e5 hp
    obtain ⟨b, rfl⟩ : ∃ b : Nat, r5 = b := ⟨r5.toNat, by omega⟩
    -- the kinds
    refine ⟨_, rfl, _, rfl, _, rfl, a, ns, 3, 1 + r2, N, rfl, e6.seq hS, by decide, by decide, by omega, by omega, n2, n48, nev, fun A kv H7 e7 hA hkl hks => ?_⟩
    have e07 : Same H H7 := e6.trans e7
    have hp7 := hp6.same e7
    -- the rules
    refine ⟨_, rfl, a, 1, ns, rfl, by decide, e07.seq hS, fun p2 H8 e8 hp2n hq8 => ?_⟩
    have hp8 := hp7.same e8
    refine ⟨_, rfl, (by show 1 ≤ sizeLine; decide), fun wa hwa => ?_⟩
    have e9 := same_new (o := .lst [.str "squeeze"]) hwa
    have hp9 := hp8.same e9
    have hq9 := hq8.same e9
    have pwa : wa ≠ p := (hp8.ne hwa).symm
    have qwa : wa ≠ p2 := (hq8.ne hwa).symm
    have p2p : p2 ≠ p := (hp7.ne hp2n).symm
    refine ⟨_, rfl, p, 2, rfl, by decide, by decide, hp9, fun r6 H10 ra6 rb6 b10 hp10 => ⟨_, _, rfl, rfl, ?_⟩⟩
    have hq10 := hq9.but b10 p2p
    have hwa10 := b10 _ _ (upd_same (H := H8) (a := wa) (o := .lst [.str "squeeze"])) pwa
    have hst6 : 1 + r6 = 1 ∨ 1 + r6 = 2 := by omega
    obtain ⟨hSn, hS1, hS5, hSs, hSo⟩ := sOf_ok hst6
    refine ⟨p2, N, wa, 1 + r6, rfl, hq10, hwa10, qwa, n2, n48, hst6, fun d H11 kvs tb b11 hdn hd11 hTb hrx11 => ?_⟩
    generalize sOf (1 + r6) = S at hSn hS1 hS5 hSs hSo hTb
    have e0u : Same H (upd H8 wa (.lst [.str "squeeze"])) := (e07.trans e8).trans e9
    have e10 : Same H H10 := b10.same e0u hp
    have p2H : H p2 = none := e07.free hp2n
    have e11 : Same H H11 := b11.same e10 p2H
    -- the kinds still stand
    have hAp : A ≠ p := fun z => by
      obtain ⟨ys, g1, a1, a2, a3, rfl⟩ := hp7
      rw [z, g1] at hA
      cases hA
      obtain ⟨x, hx, _⟩ := hks (.int a1) List.mem_cons_self
      cases hx
    have hAp2 : A ≠ p2 := ne_of_none hA hp2n
    have hA11 : H11 A = some (.lst kv) := b11 _ _ (b10 _ _ (e9 _ _ (e8 _ _ hA)) hAp) hAp2
    have hks11 : ∀ v ∈ kv, ∃ a, v = .ref a ∧ KindAt K H11 a N := fun v hv => by
      obtain ⟨x, hx, hk⟩ := hks v hv
      exact ⟨x, hx, KindAt.off nev (KindAt.off nev ((hk.same e8).same e9) hp9 b10) hq10 b11⟩
    -- the parts
    refine ⟨_, rfl, A, rfl, ⟨_, SqL.of hA11⟩, fun D hD => lc_mp walk_list (fun _ y H => ∃ q pd, y = V.ref q ∧ PartOk N pd ∧ PartAt K c H q N pd) hD (fun H' e => SqL.of (e _ _ hA11)) (by omega) (fun _ y H H' acc hD' e ⟨q, pd, h1, h2, h3⟩ => ⟨q, pd, h1, h2, h3.bx e hD'⟩) ?_ ?_⟩
    · rintro i x H' H'' Cy Cn hi e ⟨rfl, hx⟩ hy
      obtain ⟨ka, rfl, hk⟩ := hks11 x (List.mem_of_getElem? hx)
      exact ⟨rfl, _, rfl, _, rfl, ka, N, rfl, n2, n48, nev, hk.same e, fun p' H3' pd e' hok hp' => hy _ _ e' ⟨p', pd, rfl, hok, hp'⟩⟩
    intro H12 acc e12 hacc hpd
    obtain ⟨pds, hpl, hok, hpp⟩ := parts_of hpd
    rw [List.length_range] at hpl
    have hl : (pds.length : Int) = 1 + r2 := by omega
    have l1 : 1 ≤ pds.length := by omega
    have l3 : pds.length ≤ 3 := by omega
    have hb : b < pds.length := by omega
    have hP12 : PartsAt K c H12 D N pds := ⟨⟨acc, hacc, hpp⟩⟩
    have hd12 := e12 _ _ hd11
    have hrx12 := hrx11.same e12
    have e012 : Same H H12 := e11.trans e12
    -- the machines
    have hkeys : tb.map Prod.fst = S := hTb.keys
    refine ⟨_, rfl, _, rfl, d, kvs, tb, rfl, hd12, hrx12, by rw [hkeys]; exact hSn, by rw [← List.length_map (f := Prod.fst), hkeys]; exact hS5, fun d' H13 kvs' e13 _ hd13 hrx13 _ _ => ⟨d', N, kvs', tb, S, rfl, n2, n48, hd13, hrx13, hTb.wide, hSn, hS5, hSs, hSo, fun la H14 tb2 e14 hrel hLa => ?_⟩⟩
    have e1214 := e13.trans e14
    have e014 := e012.trans e1214
    refine ⟨_, rfl, _, rfl, a, 2, ns, rfl, by decide, e014.seq hS, fun p3 H15 e15 hp3n hq15 => ?_⟩
    refine ⟨_, rfl, _, rfl, p3, d, N, kvs, tb, S, rfl, hq15, e15 _ _ (e1214 _ _ hd12), (hrx12.same e1214).same e15, hTb, hSn, hS1, hS5, n2, n48, fun d2 H16 kvs2 tb' b16 _ hd16 hTb' hrx16 hsub => ?_⟩
    have e1416 : Same H14 H16 := b16.same e15 hp3n
    refine ⟨d2, N, kvs2, tb', S, rfl, n2, n48, hd16, hrx16, hTb', hSn, hS5, hSs, hSo, fun lb H17 tb2' e17 hrel' hLb => ?_⟩
    have e1417 := e1416.trans e17
    have hP17 := hP12.same (e1214.trans e1417)
    have hLa17 := hLa.same e1417
    obtain ⟨Tw, t5, t7⟩ := tbRel_ok hTb (by decide) hSn hSs hS5 hrel
    obtain ⟨Tw', t5', t7'⟩ := tbRel_ok hTb' (by decide) hSn hSs hS5 hrel'
    have hrr := sub_rules hTb hTb' hSn hrel hrel' hsub
    have O := wOk l1 l3 hok
    have hD17 : H17 D = some (.lst acc) := e1417 _ _ (e1214 _ _ hacc)
    clear hp1 hp2 hp3 hp4 hp5 hp6 hp7 hp8 hp9 hp10 hq8 hq9 hq10 hq15
    -- the numbers
    refine ⟨_, rfl, _, rfl, _, rfl, D, la, N, pds, tb2, 12, st, rfl, by decide, hP17, l1, l3, hok, hLa17, t5, t7, Tw, fun H18 w0 k18 hw0 => ?_⟩
    refine ⟨_, rfl, _, rfl, _, rfl, D, lb, N, pds, tb2', 12, st, rfl, by decide, hP17.kx k18, l1, l3, hok, hLb.kx k18, t5', t7', Tw', fun H19 w1 k19 hw1 => ?_⟩
    have k019 := k18.trans k19
    refine ⟨_, rfl, _, rfl, D, la, N, pds, tb2, 12, false, rfl, by decide, hP17.kx k019, l1, l3, hok, hLa17.kx k019, t5, t7, Tw, fun H20 w2 k20 hw2 => ?_⟩
    have k020 := k019.trans k20
    refine ⟨(by show 2 ≤ sizeLine; decide), fun L hL => ?_⟩
    have k021 := k020.trans (KX.of (same_new (o := .lst [.int w1, .int w2]) hL))
    have hL21 : upd H20 L (.lst [.int w1, .int w2]) L = some (.lst [.int w1, .int w2]) := upd_same
    have kL : ∀ {H' : Hp} {o : HO}, KX H17 H' → KX H17 (upd H' L o) := fun {H' o} e b u h n => by
      rw [upd_ne (fun z => by
        rw [z] at h
        have := k020 _ _ h n
        rw [hL] at this
        cases this)]
      exact e b u h n
    generalize upd H20 L (.lst [.int w1, .int w2]) = H21 at k021 hL21
    refine ⟨_, rfl, _, _, rfl, rfl, _, rfl, ?_⟩
    apply join (M := fun H' => KX H17 H' ∧ ∃ es : List Int, H' L = some (.lst (es.map V.int)) ∧ es.length ≤ 3 ∧ ∀ e ∈ es, w0 ≠ -1 → e ≤ w0)
    case h1 =>
      intro rest
      have he1 : w0 ≠ -1 → w1 ≤ w0 := fun h => lwr_easier (emb_id _) (fun p hp => hp) O O Tw Tw' hrr (fun h => h) hw0 h hw1
      have he2 : w0 ≠ -1 → w2 ≤ w0 := fun h => lwr_easier (emb_id _) (fun p hp => hp) O O Tw Tw (fun _ _ h => h) (fun h => by cases h) hw0 h hw2
      refine ite2 (fun hm => ?_) (fun hm => rest H21 ⟨k021, [w1, w2], hL21, (by show 2 ≤ 3; omega), fun e he hw => ?_⟩)
      · have hm' : 1 + r2 > 1 := of_decide_eq_true hm
        have hD21 := k021.lst hD17
        have el : acc.length = pds.length := (Paired.len hpp).symm
        have ec : cutV acc (some ((b : Int) + 1)) none = acc.drop (b + 1) := by rw [show (b : Int) + 1 = ((b + 1 : Nat) : Int) by omega, cut_drop]
        refine ⟨_, rfl, .inl ⟨rfl, _, SqL.of hL21⟩, ?_⟩
        refine ⟨_, rfl, _, rfl, (b : Int), rfl, D, acc, rfl, SqL.of hD21, fun q1 hq1 => ?_⟩
        rw [cut_take]
        have s1 := same_new (o := .lst (acc.take b)) hq1
        refine ⟨_, rfl, _, rfl, _, _, rfl, rfl, _, rfl, D, acc, rfl, SqL.of (s1 _ _ hD21), fun q2 hq2 => ?_⟩
        refine ⟨q1, q2, acc.take b, acc.drop (b + 1), rfl, rfl, (same_new hq2) _ _ upd_same, by rw [upd_same, ec], (by rw [List.length_take, List.length_drop, sizeLine_eq]; omega), fun q3 hq3 => ?_⟩
        have s2 := same_new (o := .lst (cutV acc (some ((b : Int) + 1)) none)) hq2
        have s3 := same_new (o := .lst (acc.take b ++ acc.drop (b + 1))) hq3
        have s123 := (s1.trans s2).trans s3
        have hq3' : upd (upd (upd H21 q1 (.lst (acc.take b))) q2 (.lst (cutV acc (some ((b : Int) + 1)) none))) q3 (.lst (acc.take b ++ acc.drop (b + 1))) q3 = some (.lst (acc.take b ++ acc.drop (b + 1))) := upd_same
        have k24 := k021.trans (KX.of s123)
        have hL24 := s123 _ _ hL21
        generalize upd (upd (upd H21 q1 (.lst (acc.take b))) q2 (.lst (cutV acc (some ((b : Int) + 1)) none))) q3 (.lst (acc.take b ++ acc.drop (b + 1))) = H24 at hq3' k24 hL24
        obtain ⟨vs17, hv17, hpp17⟩ := (hP17.kx k24).ob
        have hvs : vs17 = acc := by
          have := k24.lst hD17
          rw [hv17] at this
          exact HO.lst.inj (Option.some.inj this)
        rw [hvs] at hpp17
        have hP3 : PartsAt K c H24 q3 N (pds.take b ++ pds.drop (b + 1)) := ⟨⟨_, hq3', paired_app (paired_take b hpp17) (paired_drop (b + 1) hpp17)⟩⟩
        have hlen3 : (pds.take b ++ pds.drop (b + 1)).length = pds.length - 1 := by rw [List.length_append, List.length_take, List.length_drop]; omega
        have hok3 : ∀ d ∈ pds.take b ++ pds.drop (b + 1), PartOk N d := fun d hd => (List.mem_append.mp hd).elim (fun z => hok d (List.mem_of_mem_take z)) fun z => hok d (List.mem_of_mem_drop z)
        have l13 : 1 ≤ (pds.take b ++ pds.drop (b + 1)).length := by omega
        have l33 : (pds.take b ++ pds.drop (b + 1)).length ≤ 3 := by omega
        refine ⟨_, rfl, _, rfl, q3, la, N, pds.take b ++ pds.drop (b + 1), tb2, 12, st, rfl, by decide, hP3, l13, l33, hok3, hLa17.kx k24, t5, t7, Tw, fun H25 w3 k25 hw3 => ?_⟩
        have he3 : w0 ≠ -1 → w3 ≤ w0 := fun h => lwr_easier (pick_less hb).emb (fun p hp => (pick_less hb).inW hp) O (wOk l13 l33 hok3) Tw Tw (fun _ _ h => h) (fun h => h) hw0 h hw3
        refine ⟨L, [.int w1, .int w2], _, rfl, rfl, k25.lst hL24, (by rw [sizeLine_eq]; show 2 < _; omega), rest _ ⟨kL (k24.trans k25), [w1, w2, w3], upd_same, (by show 3 ≤ 3; omega), fun e he hw => ?_⟩⟩
        rcases List.mem_cons.mp he with z | z
        · rw [z]; exact he1 hw
        · rcases List.mem_cons.mp z with z | z
          · rw [z]; exact he2 hw
          · rw [List.mem_singleton.mp z]; exact he3 hw
      · rcases List.mem_cons.mp he with z | z
        · rw [z]; exact he1 hw
        · rw [List.mem_singleton.mp z]; exact he2 hw
    case h2 =>
      intro H22 hM
      obtain ⟨k22, es, hL22, hel, hes⟩ := hM
      refine ⟨_, rfl, _, rfl, rfl, _, rfl, ite2 (fun h => q _) (fun h => ?_)⟩
      have hne : w0 ≠ -1 := fun z => h (by rw [z]; decide)
      have hes' : ∀ e ∈ es, e ≤ w0 := fun e he => hes e he hne
      clear hes
      -- none is more
      refine ⟨_, rfl, L, rfl, ⟨_, SqL.of hL22⟩, for_it walk_list (fun i σ H => H = H22 ∧ ∃ x14 : Option V, σ = [some (.ref a), some (.ref p), some (.int N), some (.int (1 + r2)), some (.bl st), some (.int m), some (.int b), some (.ref A), some (.ref d), some (.ref D), some (.ref la), some (.ref lb), some (.int w0), some (.ref L), x14, none, none, none, none, none, none, none])
        ⟨rfl, none, rfl⟩ (fun i σ H _ z => by rw [z.1]; exact SqL.of hL22) ?_ ?_⟩
      · rintro i y σ H' H hi ⟨rfl, x14, rfl⟩ ⟨rfl, hy⟩
        rw [List.getElem?_map] at hy
        obtain ⟨e, he, rfl⟩ := Option.map_eq_some_iff.mp hy
        have hle := hes' e (List.mem_of_getElem? he)
        exact ⟨_, rfl, _, rfl, _, _, rfl, rfl, _, rfl, itN (by omega) ⟨rfl, _, rfl⟩⟩
      rintro σ H22' ⟨rfl, x14, rfl⟩
      exact due_ok (D := { nx := fun _ H' => Q .non H', rt := Q }) (fun _ => q _) hm12 hb (hP17.kx k22) l1 l3 hok (hLa17.kx k22) t5 t7 Tw hw0 hne
end
end L2.Jw
set_option Elab.async false
set_option linter.all false
set_option maxRecDepth 100000
set_option maxHeartbeats 0
namespace L2.Jw
open PySem PySem.Spec PyProof.Rows
/-! ## the facts of the top, read off -/
theorem fn_bare {K : PySem.W.Frag} {a : Addr} {x q : Str} {st : Stmt} (e : fnJ K a = some (x, q, defArgs st, .stmts (defBody st), defScope st, mainGlobals, [], builtinsNs)) (kp : PySem.W.keepIn K (.ref a) = true) (b : bareB K a q = true) : ∃ fd, FnP K x q st [] [] a fd := by
  unfold fnJ at e
  unfold bareB at b
  cases hl : K.lookup a with
  | none =>
    rw [hl] at b
    cases b
  | some o =>
    obtain ⟨oc, od, dt, osl⟩ := o
    rw [hl] at b e
    cases dt with
    | func u =>
      obtain ⟨b1, b2⟩ := He.ba (show (PySem.W.codeIn K u.code q && He.dflB K u.defaults []) = true from b)
      obtain ⟨n1, n2, n3, n4, n5, n6, n7, n8, n9, n10, n11, n12, n13, n14, n15⟩ := u
      have e' : (some (n1, n2, n3, n4, n5, n6, n7, n15) : FnJ) = some (x, q, defArgs st, .stmts (defBody st), defScope st, mainGlobals, [], builtinsNs) := e
      simp only [Option.some.injEq, Prod.mk.injEq] at e'
      obtain ⟨rfl, rfl, rfl, rfl, rfl, rfl, rfl, rfl⟩ := e'
      exact ⟨_, ⟨oc, od, n8, n9, n10, n11, n12, n13, n14, osl, rfl, hl, b1, He.dflB_ok b2, .inl rfl⟩, kp⟩
    | _ => cases b
theorem PrD.prAt {K : PySem.W.Frag} {d : PrD} (e : fnJ K (d.get K) = d.val) (c : d.ok K = true) : PrAt K (He.ga K d.cls) d.name d.qual d.st := by
  obtain ⟨c1, c⟩ := He.ba c
  obtain ⟨c2, c⟩ := He.ba c
  obtain ⟨c3, c⟩ := He.ba c
  obtain ⟨c4, c⟩ := He.ba c
  obtain ⟨c5, c6⟩ := He.ba c
  obtain ⟨fd, F⟩ := fn_bare e c5 c6
  refine ⟨d.at_ K, d.get K, fd, ⟨He.eqO_ok c1, He.eqO_ok c2, of_decide_eq_true c3, ?_⟩, F⟩
  unfold hasGet at c4
  split at c4
  · rename_i g' r hg
    rw [← of_decide_eq_true c4]
    exact ⟨r, hg⟩
  · cases c4
theorem oexB_ok {K : PySem.W.Frag} {C : Addr} (h : oexB K C = true) : OexC K C := by
  obtain ⟨h1, h⟩ := He.ba h
  obtain ⟨h2, h⟩ := He.ba h
  obtain ⟨h3, h⟩ := He.ba h
  obtain ⟨h4, h5⟩ := He.ba h
  refine ⟨?_, He.eqO_ok h2, of_decide_eq_true h3, of_decide_eq_true h4, h5⟩
  split at h1
  · rename_i dd u sl hl
    split at h1
    · rename_i C' bm k0 k1 k2 k3 n k5 hm hs
      obtain ⟨g1, g⟩ := He.ba h1
      obtain ⟨g2, g⟩ := He.ba g
      obtain ⟨g3, g⟩ := He.ba g
      obtain ⟨g4, g5⟩ := He.ba g
      obtain ⟨nm, bs, mro, ns, qn, hd, sn, sb, ab, col, del⟩ := u
      obtain ⟨l⟩ := sl
      have e1 := of_decide_eq_true g1
      have e2 := of_decide_eq_true g2
      dsimp only at hm hs g3 g4
      subst e1 e2 hm hs g4
      have e3 : del = false := by cases del with
        | false => rfl
        | true => cases g3
      subst e3
      exact ⟨_, _, _, _, _, _, _, _, _, _, _, _, _, _, _, hl, g5⟩
    · cases h1
  · cases h1
def csOf (K : PySem.W.Frag) : Cs := ⟨He.ga K "Turning", He.ga K "Part", He.ga K "Let", He.ga K "Jaws", He.ga K "Game", He.ga K "TooMany", He.ga K "WORDS"⟩
section
variable {K : PySem.W.Frag}
theorem SaysJ.d (c : SaysJ K) : He.SaysD hfa hfn K := congrArg (fun z : AlJ => z.1) c
theorem SaysJ.bools (c : SaysJ K) : (exJ K && hpr.all fun d => d.ok K) = true := congrArg (fun z : AlJ => z.2.1) c
theorem SaysJ.pr (c : SaysJ K) (i : Nat) {d : PrD} (h : hpr[i]? = some d) : PrAt K (He.ga K d.cls) d.name d.qual d.st := by
  have e : hpr.map (fun d => fnJ K (d.get K)) = hpr.map PrD.val := congrArg (fun z : AlJ => z.2.2) c
  have e2 : (hpr.map fun d => fnJ K (d.get K))[i]? = (hpr.map PrD.val)[i]? := by rw [e]
  rw [List.getElem?_map, List.getElem?_map, h] at e2
  exact PrD.prAt (Option.some.inj e2) (List.all_eq_true.mp (He.ba c.bools).2 d (List.mem_of_getElem? h))
theorem SaysJ.ex (c : SaysJ K) : exJ K = true := (He.ba c.bools).1
theorem SaysJ.ex_lcm (c : SaysJ K) : PySem.W.nsIn K mainGlobals "lcm" = some (some (.builtin "math.lcm")) := He.eqO_ok (He.ba c.ex).1
theorem SaysJ.ex_words (c : SaysJ K) : He.tupB K "WORDS" [.str "push", .str "squeeze"] = true := (He.ba (He.ba c.ex).2).1
theorem SaysJ.ex_isPa (c : SaysJ K) : PySem.W.findIn K (.ref (He.ga K "Part")) "__class__" = some (some (.builtin "object.__class__")) := He.eqO_ok (He.ba (He.ba (He.ba c.ex).2).2).1
theorem SaysJ.ex_isPh (c : SaysJ K) : PySem.W.specialIn K (.builtin "object.__class__") "__get__" = some (some (.builtin "getset_descriptor.__get__")) := He.eqO_ok (He.ba (He.ba (He.ba (He.ba c.ex).2).2).2).1
theorem SaysJ.ex_isPt (c : SaysJ K) : PySem.W.takesIn K (.builtin "object.__class__") = some true := of_decide_eq_true (He.ba (He.ba (He.ba (He.ba (He.ba c.ex).2).2).2).2).1
theorem SaysJ.ex_isPm (c : SaysJ K) : PySem.W.mroIn K (He.ga K "Part") (.type "object") = some true := of_decide_eq_true (He.ba (He.ba (He.ba (He.ba (He.ba (He.ba c.ex).2).2).2).2).2).1
theorem SaysJ.ex_oex (c : SaysJ K) : oexB K (He.ga K "TooMany") = true := (He.ba (He.ba (He.ba (He.ba (He.ba (He.ba c.ex).2).2).2).2).2).2
variable {h : Heap} {mg : Str → Option Value}
theorem def_of (X : K.In h) (G : h.Ns mainGlobals mg) {x : Str} {st : Stmt} (c : (He.Fa.glo x).ok K = true) (d : ∃ fd, FunD K x x (defArgs st) (defBody st) (defScope st) [] [] (He.ga K x) fd) : DefAt K mg x st := by
  obtain ⟨fd, F⟩ := d
  exact ⟨_, fd, He.glo_ok X G c, F⟩
theorem met_of {C m q : Str} {st : Stmt} (c : (He.Fa.meth C m).ok K = true) (d : ∃ fd, FunD K m q (defArgs st) (defBody st) (defScope st) [] [] (He.ma K (He.ga K C) m) fd) : MetAt K (He.ga K C) m q st := by
  obtain ⟨fd, F⟩ := d
  exact ⟨_, fd, He.meth_ok c, F⟩
theorem mk_of {C q : Str} {st : Stmt} {dv : List V} (c : (He.Fa.mkr C).ok K = true) (d : ∃ fd, FunD K "__init__" q (defArgs st) (defBody st) (defScope st) dv [] (He.ma K (He.ga K C) "__init__") fd) : MkAt K (He.ga K C) q st dv := by
  obtain ⟨fd, F⟩ := d
  exact ⟨_, fd, He.mkr_ok c, F⟩
theorem fnIn_of {x q : Str} {ps : Arguments} {b : List Stmt} {sc : Scope} {dv : List V} {kv : List (Str × V)} {g : Addr} {fd : FuncData} (F : FunD K x q ps b sc dv kv g fd) : PySem.W.fnIn K g = true := by
  obtain ⟨oc, od, dV, kV, doc, pm, an, cdv, ct, osl, _, e, _⟩ := F.ex
  unfold PySem.W.fnIn
  rw [e]
theorem get_of {C : Str} {st : Stmt} {q : Str} (c : (He.Fa.meth C "__getitem__").ok K = true) (d : ∃ fd, FunD K "__getitem__" q (defArgs st) (defBody st) (defScope st) [] [] (He.ma K (He.ga K C) "__getitem__") fd) : ∃ g fd, GetO K (He.ga K C) g ∧ FnP K "__getitem__" q st [] [] g fd := by
  obtain ⟨fd, F⟩ := d
  have m := He.meth_ok c
  exact ⟨_, fd, ⟨m.1, m.2, fnIn_of F⟩, F⟩
theorem call_of {C : Str} {st : Stmt} {q : Str} (c : (He.Fa.meth C "__call__").ok K = true) (d : ∃ fd, FunD K "__call__" q (defArgs st) (defBody st) (defScope st) [] [] (He.ma K (He.ga K C) "__call__") fd) : ∃ g fd, StX.CallO K (He.ga K C) g ∧ FnP K "__call__" q st [] [] g fd := by
  obtain ⟨fd, F⟩ := d
  have m := He.meth_ok c
  exact ⟨_, fd, ⟨m.1, m.2, fnIn_of F⟩, F⟩
theorem tell_of (X : K.In h) (G : h.Ns mainGlobals mg) {st : Stmt} (c : (He.Fa.glo "tell").ok K = true) (d : ∃ fd, FunD K "tell" "tell" (defArgs st) (defBody st) (defScope st) [] [("most", .int 12), ("settled", .bl false)] (He.ga K "tell") fd) :
    ∃ f fd, mg "tell" = some (.ref f) ∧ FunD K "tell" "tell" (defArgs st) (defBody st) (defScope st) [] [("most", .int 12), ("settled", .bl false)] f fd := by
  obtain ⟨fd, F⟩ := d
  exact ⟨_, fd, He.glo_ok X G c, F⟩
theorem exI_of {C q : Str} {st : Stmt} (c : (He.Fa.meth C "__init__").ok K = true) (d : ∃ fd, FunD K "__init__" q (defArgs st) (defBody st) (defScope st) [] [] (He.ma K (He.ga K C) "__init__") fd) :
    ∃ fI fd, PySem.W.findIn K (.ref (He.ga K C)) "__init__" = some (some (.ref fI)) ∧ PySem.W.typeIn K (.ref fI) = some (.type "function") ∧ FnP K "__init__" q st [] [] fI fd := by
  obtain ⟨fd, F⟩ := d
  have m := He.meth_ok c
  exact ⟨_, fd, m.1, eq_of_beq m.2, F⟩
end
theorem tx_of {K : PySem.W.Frag} {h : Heap} {mg : Str → Option Value} (X : K.In h) (G : h.Ns mainGlobals mg) (c : SaysJ K) : Tx K mg (csOf K) where
  isinstance := He.free_ok X G (c.d.fact 0 (f := .free "isinstance") rfl)
  len := He.free_ok X G (c.d.fact 1 (f := .free "len") rfl)
  enumerate := He.free_ok X G (c.d.fact 2 (f := .free "enumerate") rfl)
  tuple := He.free_ok X G (c.d.fact 3 (f := .free "tuple") rfl)
  sorted := He.free_ok X G (c.d.fact 4 (f := .free "sorted") rfl)
  range := He.free_ok X G (c.d.fact 5 (f := .free "range") rfl)
  divmod := He.free_ok X G (c.d.fact 6 (f := .free "divmod") rfl)
  list := He.free_ok X G (c.d.fact 7 (f := .free "list") rfl)
  int := He.free_ok X G (c.d.fact 8 (f := .free "int") rfl)
  bool := He.free_ok X G (c.d.fact 9 (f := .free "bool") rfl)
  str := He.free_ok X G (c.d.fact 10 (f := .free "str") rfl)
  dict := He.free_ok X G (c.d.fact 11 (f := .free "dict") rfl)
  any := He.free_ok X G (c.d.fact 12 (f := .free "any") rfl)
  all := He.free_ok X G (c.d.fact 13 (f := .free "all") rfl)
  set := He.free_ok X G (c.d.fact 14 (f := .free "set") rfl)
  min := He.free_ok X G (c.d.fact 15 (f := .free "min") rfl)
  max := He.free_ok X G (c.d.fact 16 (f := .free "max") rfl)
  lcm := PySem.W.mg_of X G (c.ex_lcm)
  MOST_ROUND := He.int_ok X G (c.d.fact 17 (f := .int "MOST_ROUND" 360) rfl)
  MOST_ROWS_turnings := He.int_ok X G (c.d.fact 18 (f := .int "MOST_ROWS_turnings" 12) rfl)
  MOST_WIDTH := He.int_ok X G (c.d.fact 19 (f := .int "MOST_WIDTH" 1000000000000) rfl)
  MOST_STATES := He.int_ok X G (c.d.fact 20 (f := .int "MOST_STATES" 5) rfl)
  MOST_RULES := He.int_ok X G (c.d.fact 21 (f := .int "MOST_RULES" 40) rfl)
  MOST_ROWS_walks := He.int_ok X G (c.d.fact 22 (f := .int "MOST_ROWS_walks" 600) rfl)
  MOST_LOG := He.int_ok X G (c.d.fact 23 (f := .int "MOST_LOG" 40) rfl)
  MOST_SQUEEZES := He.int_ok X G (c.d.fact 24 (f := .int "MOST_SQUEEZES" 12) rfl)
  START := He.str_ok X G (c.d.fact 25 (f := .str "START" "start") rfl)
  LETTERS := He.str_ok X G (c.d.fact 26 (f := .str "LETTERS" "abcdefghijklmnopqrstuvwxyz") rfl)
  WORDS := He.glo_ok X G (c.d.fact 27 (f := .glo "WORDS") rfl)
  words := fun H => He.tupB_ok c.ex_words H
  D_is_integer := def_of X G (c.d.fact 31 (f := .glo "is_integer") rfl) (c.d.def_ 2 rfl)
  D_is_row := def_of X G (c.d.fact 32 (f := .glo "is_row") rfl) (c.d.def_ 3 rfl)
  D_is_place := def_of X G (c.d.fact 33 (f := .glo "is_place") rfl) (c.d.def_ 4 rfl)
  D_check_round := def_of X G (c.d.fact 34 (f := .glo "check_round") rfl) (c.d.def_ 5 rfl)
  D_is_pair := def_of X G (c.d.fact 35 (f := .glo "is_pair") rfl) (c.d.def_ 6 rfl)
  D_checked_rows := def_of X G (c.d.fact 36 (f := .glo "checked_rows") rfl) (c.d.def_ 7 rfl)
  D_rows_turned := def_of X G (c.d.fact 37 (f := .glo "rows_turned") rfl) (c.d.def_ 8 rfl)
  D_least_period := def_of X G (c.d.fact 38 (f := .glo "least_period") rfl) (c.d.def_ 9 rfl)
  D_is_word := def_of X G (c.d.fact 39 (f := .glo "is_word") rfl) (c.d.def_ 10 rfl)
  D_checked_widths := def_of X G (c.d.fact 40 (f := .glo "checked_widths") rfl) (c.d.def_ 11 rfl)
  D_check_even := def_of X G (c.d.fact 41 (f := .glo "check_even") rfl) (c.d.def_ 12 rfl)
  D_is_name := def_of X G (c.d.fact 42 (f := .glo "is_name") rfl) (c.d.def_ 13 rfl)
  D_is_rule := def_of X G (c.d.fact 43 (f := .glo "is_rule") rfl) (c.d.def_ 14 rfl)
  D_checked_rules := def_of X G (c.d.fact 44 (f := .glo "checked_rules") rfl) (c.d.def_ 15 rfl)
  D_check_kinds := def_of X G (c.d.fact 45 (f := .glo "check_kinds") rfl) (c.d.def_ 16 rfl)
  D_check_shown := def_of X G (c.d.fact 46 (f := .glo "check_shown") rfl) (c.d.def_ 17 rfl)
  D_check_log := def_of X G (c.d.fact 47 (f := .glo "check_log") rfl) (c.d.def_ 18 rfl)
  D_still_fitting := def_of X G (c.d.fact 48 (f := .glo "still_fitting") rfl) (c.d.def_ 19 rfl)
  D_fitting := def_of X G (c.d.fact 49 (f := .glo "fitting") rfl) (c.d.def_ 20 rfl)
  D_fits := def_of X G (c.d.fact 50 (f := .glo "fits") rfl) (c.d.def_ 21 rfl)
  D_checked_jaws := def_of X G (c.d.fact 51 (f := .glo "checked_jaws") rfl) (c.d.def_ 22 rfl)
  D__law_pool := def_of X G (c.d.fact 52 (f := .glo "_law_pool") rfl) (c.d.def_ 23 rfl)
  D__law_draw := def_of X G (c.d.fact 53 (f := .glo "_law_draw") rfl) (c.d.def_ 24 rfl)
  D__law_laps := def_of X G (c.d.fact 54 (f := .glo "_law_laps") rfl) (c.d.def_ 25 rfl)
  D__law_rows := def_of X G (c.d.fact 55 (f := .glo "_law_rows") rfl) (c.d.def_ 26 rfl)
  D__law_shown := def_of X G (c.d.fact 56 (f := .glo "_law_shown") rfl) (c.d.def_ 27 rfl)
  D__law_shown_part := def_of X G (c.d.fact 57 (f := .glo "_law_shown_part") rfl) (c.d.def_ 28 rfl)
  D__law_rules := def_of X G (c.d.fact 58 (f := .glo "_law_rules") rfl) (c.d.def_ 29 rfl)
  D__law_handed := def_of X G (c.d.fact 59 (f := .glo "_law_handed") rfl) (c.d.def_ 30 rfl)
  D__law_worst := def_of X G (c.d.fact 60 (f := .glo "_law_worst") rfl) (c.d.def_ 31 rfl)
  D__law_tree := def_of X G (c.d.fact 61 (f := .glo "_law_tree") rfl) (c.d.def_ 32 rfl)
  D__law_more := def_of X G (c.d.fact 62 (f := .glo "_law_more") rfl) (c.d.def_ 33 rfl)
  D__law_ways := def_of X G (c.d.fact 63 (f := .glo "_law_ways") rfl) (c.d.def_ 34 rfl)
  mg_Tu := He.glo_ok X G (c.d.fact 64 (f := .glo "Turning") rfl)
  cl_Tu := He.cls_ok (c.d.fact 65 (f := .cls "Turning") rfl)
  n_Tu_around := He.noat_ok (c.d.fact 66 (f := .noat "Turning" "around") rfl)
  n_Tu_rows := He.noat_ok (c.d.fact 67 (f := .noat "Turning" "rows") rfl)
  n_Tu__period := He.noat_ok (c.d.fact 68 (f := .noat "Turning" "_period") rfl)
  mg_Pa := He.glo_ok X G (c.d.fact 70 (f := .glo "Part") rfl)
  cl_Pa := He.cls_ok (c.d.fact 71 (f := .cls "Part") rfl)
  n_Pa_around := He.noat_ok (c.d.fact 72 (f := .noat "Part" "around") rfl)
  n_Pa__shown := He.noat_ok (c.d.fact 73 (f := .noat "Part" "_shown") rfl)
  n_Pa__turnings := He.noat_ok (c.d.fact 74 (f := .noat "Part" "_turnings") rfl)
  mg_Le := He.glo_ok X G (c.d.fact 76 (f := .glo "Let") rfl)
  cl_Le := He.cls_ok (c.d.fact 77 (f := .cls "Let") rfl)
  n_Le_around := He.noat_ok (c.d.fact 78 (f := .noat "Let" "around") rfl)
  n_Le__table := He.noat_ok (c.d.fact 79 (f := .noat "Let" "_table") rfl)
  mg_Ja := He.glo_ok X G (c.d.fact 81 (f := .glo "Jaws") rfl)
  cl_Ja := He.cls_ok (c.d.fact 82 (f := .cls "Jaws") rfl)
  n_Ja_ring := He.noat_ok (c.d.fact 83 (f := .noat "Jaws" "ring") rfl)
  n_Ja_lands := He.noat_ok (c.d.fact 84 (f := .noat "Jaws" "lands") rfl)
  n_Ja_gaps := He.noat_ok (c.d.fact 85 (f := .noat "Jaws" "gaps") rfl)
  n_Ja_spans := He.noat_ok (c.d.fact 86 (f := .noat "Jaws" "spans") rfl)
  mg_Ga := He.glo_ok X G (c.d.fact 88 (f := .glo "Game") rfl)
  cl_Ga := He.cls_ok (c.d.fact 89 (f := .cls "Game") rfl)
  n_Ga_jaws := He.noat_ok (c.d.fact 90 (f := .noat "Game" "jaws") rfl)
  n_Ga_let := He.noat_ok (c.d.fact 91 (f := .noat "Game" "let") rfl)
  n_Ga_strict := He.noat_ok (c.d.fact 92 (f := .noat "Game" "strict") rfl)
  n_Ga_choices := He.noat_ok (c.d.fact 93 (f := .noat "Game" "choices") rfl)
  n_Ga_worth := He.noat_ok (c.d.fact 94 (f := .noat "Game" "worth") rfl)
  n_Ga_begins_told := He.noat_ok (c.d.fact 95 (f := .noat "Game" "begins_told") rfl)
  n_Ga_opening := He.noat_ok (c.d.fact 96 (f := .noat "Game" "opening") rfl)
  M_Tu_lifted := met_of (c.d.fact 98 (f := .meth "Turning" "lifted") rfl) (c.d.def_ 35 rfl)
  M_Tu_is_even := met_of (c.d.fact 99 (f := .meth "Turning" "is_even") rfl) (c.d.def_ 36 rfl)
  M_Le_rules := met_of (c.d.fact 100 (f := .meth "Let" "rules") rfl) (c.d.def_ 37 rfl)
  M_Ja_all_pairs := met_of (c.d.fact 101 (f := .meth "Jaws" "all_pairs") rfl) (c.d.def_ 38 rfl)
  M_Ja_squeezed := met_of (c.d.fact 102 (f := .meth "Jaws" "squeezed") rfl) (c.d.def_ 39 rfl)
  M_Ja_parted := met_of (c.d.fact 103 (f := .meth "Jaws" "parted") rfl) (c.d.def_ 40 rfl)
  M_Ja_is_told := met_of (c.d.fact 104 (f := .meth "Jaws" "is_told") rfl) (c.d.def_ 41 rfl)
  M_Ga_branches := met_of (c.d.fact 105 (f := .meth "Game" "branches") rfl) (c.d.def_ 42 rfl)
  M_Ga_collect := met_of (c.d.fact 106 (f := .meth "Game" "collect") rfl) (c.d.def_ 43 rfl)
  M_Ga_worst := met_of (c.d.fact 107 (f := .meth "Game" "worst") rfl) (c.d.def_ 44 rfl)
  M_Ga_weigh := met_of (c.d.fact 108 (f := .meth "Game" "weigh") rfl) (c.d.def_ 45 rfl)
  M_Ga_least := met_of (c.d.fact 109 (f := .meth "Game" "least") rfl) (c.d.def_ 46 rfl)
  M_Ga_tree := met_of (c.d.fact 110 (f := .meth "Game" "tree") rfl) (c.d.def_ 47 rfl)
  M_Ga_number := met_of (c.d.fact 111 (f := .meth "Game" "number") rfl) (c.d.def_ 48 rfl)
  P_Tu_period := c.pr 0 rfl
  P_Pa_words := c.pr 1 rfl
  P_Pa_period := c.pr 2 rfl
  P_Pa_widths := c.pr 3 rfl
  P_Le_words := c.pr 4 rfl
  I_Tu := mk_of (c.d.fact 69 (f := .mkr "Turning") rfl) (c.d.def_ 52 rfl)
  I_Pa := mk_of (c.d.fact 75 (f := .mkr "Part") rfl) (c.d.def_ 53 rfl)
  I_Le := mk_of (c.d.fact 80 (f := .mkr "Let") rfl) (c.d.def_ 54 rfl)
  I_Ja := mk_of (c.d.fact 87 (f := .mkr "Jaws") rfl) (c.d.def_ 55 rfl)
  I_Ga := mk_of (c.d.fact 97 (f := .mkr "Game") rfl) (c.d.def_ 56 rfl)
  getP := get_of (c.d.fact 112 (f := .meth "Part" "__getitem__") rfl) (c.d.def_ 49 rfl)
  callT := call_of (c.d.fact 113 (f := .meth "Turning" "__call__") rfl) (c.d.def_ 50 rfl)
  isPa := c.ex_isPa
  isPh := c.ex_isPh
  isPt := c.ex_isPt
  isPm := c.ex_isPm
  mg_TM := He.glo_ok X G (c.d.fact 30 (f := .glo "TooMany") rfl)
  tell := tell_of X G (c.d.fact 29 (f := .glo "tell") rfl) (c.d.def_ 1 rfl)
  ex := oexB_ok c.ex_oex
  exI := exI_of (c.d.fact 114 (f := .meth "TooMany" "__init__") rfl) (c.d.def_ 51 rfl)
  exL := He.noat_ok (c.d.fact 115 (f := .noat "TooMany" "limit") rfl)
  exM := He.exm_ok (c.d.fact 116 (f := .exm "TooMany" "TooMany" true) rfl)
theorem law_facts {P : Program} {w : World} {K : PySem.W.Frag} {h : Heap} {mg : Str → Option Value} {f : Addr} (X : K.In h) (G : h.Ns mainGlobals mg) (hf : mg ("law" : Str) = some (.ref f)) (c : SaysJ K) :
    ∃ fd : FuncData, (∀ (s : Shared) (v : Value), BindsTo s fd ⟨[v], []⟩ [("_law_script", v)]) ∧ ∀ base : Heap, K.In base → base.Ns mainGlobals mg → FnOk P w K mg base CX0 19 f fd ["_law_script"] (spLaw K) := by
  obtain ⟨fd, F⟩ := c.d.def_ 0 rfl
  have e := hf.symm.trans (He.glo_ok X G (c.d.fact 28 (f := .glo "law") rfl))
  cases e
  have b := FunD.bindsA (ps := ["_law_script"]) F fun _ _ _ _ _ _ us hl => match us, hl with | [_], _ => rfl
  exact ⟨fd, fun s v => b s [v] rfl, fun base _ _ => f_law (tx_of X G c) F⟩
end L2.Jw
set_option Elab.async false
set_option linter.all false
set_option maxRecDepth 100000
set_option maxHeartbeats 0
open PySem PySem.W PySem.Calls PyProof.Rows
theorem PySem.Challenge.cw_jawturns_k92_whole_more_kinds_never_easi_holds : PySem.Challenge.rw_jawturns_k92_whole_more_kinds_never_easi.Holds := by
  w_on; o_law
  refine HandSHeadRun.head_imp (r := L2.Jw.rowJ) (q := view L2.Jw.rowJ.prog [0, 76]) (H := L2.Jw.hookJ) (ob := L2.Jw.obJ) (M := 9000) (loose := L2.Jw.looseN) (d := HandSHeadRun.topDef L2.Jw.rowJ.prog 76) (kwd := []) L2.Jw.obJ_eq L2.Jw.runJ
    (by kernel_rfl) (by kernel_rfl) (by kernel_rfl) (by rfl) (by first | assumption | decide +kernel) (by decide +kernel) ⟨rfl, rfl, rfl, rfl, rfl, by decide +kernel⟩ ?hw ?hc
  case hw => w_witness2
  case hc =>
    refine L2.walk_ofE (l := PySem.Challenge.rw_jawturns_k92_whole_more_kinds_never_easi) (n := 63) (k := 19) (x := "_law_script") (CX := L2.CX0) rfl (by decide) (by kernel_rfl) ⟨rfl, by decide, by decide⟩ ?F (fun _ _ _ _ z => z)
    intro w mg f h says G named
    obtain ⟨K, inK, c⟩ := says
    have eLaw : (HandSHeadRun.topDef L2.Jw.rowJ.prog 76).name = ("law" : PySem.Str) := by kernel_rfl
    rw [eLaw] at named
    obtain ⟨fd, one, walk⟩ := L2.Jw.law_facts (P := PySem.Challenge.rw_jawturns_k92_whole_more_kinds_never_easi.prog) (w := w) inK G named c
    exact ⟨K, fd, L2.Jw.spLaw K, inK, one, fun H a ns _ _ hS => ⟨a, ns, rfl, hS, fun _ => rfl⟩, walk⟩
