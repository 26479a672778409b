import PyProof.Rows.All
import Wide.All
import OpenK.AllK
import Wide.FinOn
import HandS.Style
import HandS.Words
import HandS.ExcSuper
import HandS.ExcField
import KE.KExcSuper
import HandS.Defaults
import HandS.HeadHook1
import HandS.HeadHook2
import HandS.HeadHook4
import HandS.HeadEnd
import HandS.Head0
import HandS.Head1
import HandS.Head2
import HandS.Base
import HandS.Call
import HandS.List
import HandS.WordsList
import HandS.Exc
import KE.DataEq
import HandS.Wide
import HandS.ExcOwn
import HandS.CallSlots
import HandS.WordsExc
import HandS.Comp
import HandS.Iter
import HandS.IsInst
import HandS.Text
import KE.SortData
import HandS.TryMany
import HandS.Dict
import HandS.Strs
import HandS.TupSets
import HandS.SetFor
import HandS.Conv
import KE.KMinBuiltin
import PyProof.WalkInts
import HandS.SortKw
import HandS.DictEq
import HandS.ListEq
import HandS.OwnEq
import HandS.More
import PyProof.StrBlock2
import PySem.Challenge.RW_seentops_k10_least_stretches
set_option Elab.async false
set_option linter.all false
set_option maxRecDepth 100000
set_option maxHeartbeats 4000000
namespace Hd
open PySem PySem.Spec L2 He PyProof.Rows
open PyProof.Rows (envOfC)
abbrev FnE : Type := Option (Str × Str × Arguments × FuncBody × Scope × Addr × List Str × Addr)
def fnE (K : PySem.W.Frag) (nm : Str) : FnE := match K.lookup (ma K (ga K nm) "__init__") with
  | some ⟨_, _, .func fd, _⟩ => some (fd.name, fd.qualname, fd.params, fd.body, fd.scope, fd.globals, fd.closure.map (·.1), fd.builtins)
  | _ => none
structure ErrD where
  nm : Str
  qual : Str
  f : Str
  st : Stmt
def ErrD.val (e : ErrD) : FnE := some ("__init__", e.qual, defArgs e.st, .stmts (defBody e.st), defScope e.st, mainGlobals, ["__class__"], builtinsNs)
def clsB (K : PySem.W.Frag) (C : Addr) : Bool := match K.lookup C with
  | some ⟨.type t, _, .cls cd, sl⟩ => decide (t = "type") && (match cd.mro, sl.toList with
    | .ref C' :: bm, [_, _, _, _, some (.builtin n), _] => decide (C' = C) && (decide (n = "ValueError.__new__") && (!cd.hasDel && (cd.hasDict && PySem.HandSPX.refsVE bm)))
    | _, _ => false)
  | _ => false
def initB (P : Program) (K : PySem.W.Frag) (C fI : Addr) (q : Str) : Bool := match K.lookup fI with
  | some ⟨_, _, .func fd, _⟩ => (PySem.W.codeIn K fd.code q && dflB K fd.defaults [.non]) && ((match fd.code with
    | .ref cda => (match K.lookup cda with
      | some ⟨_, _, .fields vs, _⟩ => (match (vs[2]? : Option Value) with
        | some (.str file _) => ((P.main.file : Str) == file)
        | _ => false)
      | _ => false)
    | _ => false) && (match fd.closure with
    | [(_, cc)] => (match K.lookup cc with
      | some ⟨_, _, .cell (some (.ref C')), _⟩ => decide (C' = C)
      | _ => false)
    | _ => false))
  | _ => false
def errB (P : Program) (K : PySem.W.Frag) (e : ErrD) : Bool :=
  (Fa.glo e.nm).ok K && (clsB K (ga K e.nm) && (PySem.W.excInitIn K (ga K e.nm) PySem.HandSPX.veTail "ValueError.__new__" && (eqO (PySem.W.findIn K (.ref (ga K e.nm)) "__setattr__") (some (some (.builtin "object.__setattr__"))) &&
  (eqO (PySem.W.findIn K (.ref (ga K e.nm)) "__getattribute__") (some (some (.builtin "BaseException.__getattribute__"))) && (eqO (PySem.W.findIn K (.ref (ga K e.nm)) "__getattr__") (some none) && (eqO (PySem.W.findIn K (.ref (ga K e.nm)) e.f) (some none) &&
  (eqO (PySem.W.findIn K (.ref (ga K e.nm)) "__init__") (some (some (.ref (ma K (ga K e.nm) "__init__")))) && (decide (PySem.W.typeIn K (.ref (ma K (ga K e.nm) "__init__")) = some (.type "function")) && (PySem.W.keepIn K (.ref (ga K e.nm)) &&
  (decide (PySem.W.subIn K (.ref (ga K e.nm)) (.type "BaseException") = some true) && (decide (PySem.W.subIn K (.ref (ga K e.nm)) (.type "ValueError") = some true) && (decide (PySem.W.typeIn K (.ref (ga K e.nm)) = some (.type "type")) && (PySem.W.hasDictIn K (ga K e.nm) &&
  (decide (PySem.W.exmOne K (.ref (ga K e.nm)) (.ref (ga K e.nm)) = some true) && (decide (PySem.W.mroIn K (ga K e.nm) (.ref (ga K e.nm)) = some true) && (eqO (PySem.W.ks_superIn K (ga K e.nm) (ga K e.nm) "__init__") (some (some (.builtin "ValueError.__init__"))) &&
  (eqO (PySem.W.nsIn K cStatics "thirdparty.any") (some none) && ((Fa.free "super").ok K && initB P K (ga K e.nm) (ma K (ga K e.nm) "__init__") e.qual))))))))))))))))))
def asH (g : Addr → Option Obj) : Nat → List Addr
  | 0 => [mainGlobals, cStatics]
  | n + 1 => growD g (asH g n)
abbrev AlH : Type := AlD × List FnE × Bool
def obsH (P : Program) (fa : List Fa) (fn : List DefD) (er : List ErrD) (ex : PySem.W.Frag → Bool) (K : PySem.W.Frag) : AlH := (obsD fa fn K, er.map fun e => fnE K e.nm, (er.all fun e => errB P K e) && ex K)
def valH (fn : List DefD) (er : List ErrD) : AlH := (valD fn, er.map ErrD.val, true)
def SaysH (P : Program) (fa : List Fa) (fn : List DefD) (er : List ErrD) (ex : PySem.W.Frag → Bool) (K : PySem.W.Frag) : Prop := obsH P fa fn er ex K = valH fn er
def obsHG (P : Program) (n : Nat) (fa : List Fa) (fn : List DefD) (er : List ErrD) (ex : PySem.W.Frag → Bool) (g : Addr → Option Obj) : AlH := obsH P fa fn er ex (frG g (asH g n))
def hookH (P : Program) (n : Nat) (fa : List Fa) (fn : List DefD) (er : List ErrD) (ex : PySem.W.Frag → Bool) : PySem.W.Hook where
  α := AlH
  obs := fun s => obsHG P n fa fn er ex s.heap.get?
  val := fun _ => valH fn er
  says := fun _ h => ∃ K : PySem.W.Frag, K.In h ∧ SaysH P fa fn er ex K
  of := fun _ _ e => ⟨_, frG_in, e⟩
  keeps := fun _ _ _ ⟨K, hK, c⟩ k => ⟨K, PySem.W.Frag.In.keeps hK k, c⟩
theorem obsHG_eq {P : Program} {n : Nat} {fa : List Fa} {fn : List DefD} {er : List ErrD} {ex : PySem.W.Frag → Bool} {g : Addr → Option Obj} {s : Shared} (h : ∀ a, g a = s.heap.get? a) : obsHG P n fa fn er ex g = (hookH P n fa fn er ex).obs s := by
  have e : g = s.heap.get? := funext h
  rw [e] <;> rfl
def eqcB (K : PySem.W.Frag) (x : Str) : Bool := eqO (PySem.W.findIn K (.ref (ga K x)) "__ne__") (some (some (.builtin "object.__ne__"))) && decide (PySem.W.subIn K (.ref (ga K x)) (.type "object") = some true)
def isiB (K : PySem.W.Frag) (x : Str) : Bool := eqO (PySem.W.findIn K (.ref (ga K x)) "__class__") (some (some (.builtin "object.__class__"))) && (eqO (PySem.W.specialIn K (.builtin "object.__class__") "__get__") (some (some (.builtin "getset_descriptor.__get__"))) &&
  (decide (PySem.W.takesIn K (.builtin "object.__class__") = some true) && decide (PySem.W.mroIn K (ga K x) (.type "object") = some true)))
def selfB (K : PySem.W.Frag) (x : Str) : Bool := decide (PySem.W.kitOne K (.ref (ga K x)) (.ref (ga K x)) = some true)
end Hd
namespace Lk10
open PySem PySem.Spec L2 He Hd
open PyProof.Rows (envOfC)
def top (i : Nat) : Stmt := PySem.Challenge.pw_seentops_k10_least_stretches.main.body.getD i (.Pass ⟨0, 0, 0, 0⟩)
def inside (j : Nat) : Stmt → Stmt
  | .ClassDef _ _ _ body _ _ _ _ _ _ _ => body.getD j (.Pass ⟨0, 0, 0, 0⟩)
  | s => s
abbrev st_is_whole : Stmt := top 11
abbrev st_is_name : Stmt := top 12
abbrev st_are_names : Stmt := top 13
abbrev st_check_name : Stmt := top 14
abbrev st_check_whole : Stmt := top 15
abbrev st_is_tops : Stmt := top 17
abbrev st_are_players : Stmt := top 18
abbrev st_is_look : Stmt := top 19
abbrev st_go_together : Stmt := top 20
abbrev st_seen_in : Stmt := top 21
abbrev st_known_above : Stmt := top 23
abbrev st_check_sight : Stmt := top 24
abbrev st_check_player : Stmt := top 25
abbrev st_steps_of : Stmt := top 27
abbrev st_begins_before : Stmt := top 28
abbrev st_least_of_2 : Stmt := top 29
abbrev st_stretches : Stmt := top 30
abbrev st_l_pump : Stmt := top 32
abbrev st_l_cup : Stmt := top 33
abbrev st_l_crew : Stmt := top 34
abbrev st_l_mixed : Stmt := top 35
abbrev st_l_lifted : Stmt := top 36
abbrev st_l_hidden : Stmt := top 37
abbrev st_l_looks : Stmt := top 38
abbrev st_l_wild : Stmt := top 39
abbrev st_l_seen : Stmt := top 40
abbrev st_l_known : Stmt := top 41
abbrev st_l_stretches : Stmt := top 42
abbrev st_l_least : Stmt := top 43
abbrev st_l_local : Stmt := top 46
abbrev st_l_apart : Stmt := top 47
abbrev st_law_3 : Stmt := top 48
abbrev st_Sight_init : Stmt := inside 0 (top 22)
abbrev st_Sight_eq : Stmt := inside 2 (top 22)
abbrev st_Sight_players : Stmt := inside 3 (top 22)
abbrev st_Sight_moments : Stmt := inside 4 (top 22)
abbrev st_Sight_check_moment : Stmt := inside 5 (top 22)
abbrev st_Sight_tops : Stmt := inside 6 (top 22)
def d_is_name : He.DefD := ⟨("is_name", none), "is_name", "is_name", defArgs st_is_name, defBody st_is_name, defScope st_is_name, [], []⟩
def d_are_names : He.DefD := ⟨("are_names", none), "are_names", "are_names", defArgs st_are_names, defBody st_are_names, defScope st_are_names, [], []⟩
def d_are_players : He.DefD := ⟨("are_players", none), "are_players", "are_players", defArgs st_are_players, defBody st_are_players, defScope st_are_players, [], []⟩
def d_go_together : He.DefD := ⟨("go_together", none), "go_together", "go_together", defArgs st_go_together, defBody st_go_together, defScope st_go_together, [], []⟩
def d_is_tops : He.DefD := ⟨("is_tops", none), "is_tops", "is_tops", defArgs st_is_tops, defBody st_is_tops, defScope st_is_tops, [], []⟩
def d_is_whole : He.DefD := ⟨("is_whole", none), "is_whole", "is_whole", defArgs st_is_whole, defBody st_is_whole, defScope st_is_whole, [], []⟩
def d_is_look : He.DefD := ⟨("is_look", none), "is_look", "is_look", defArgs st_is_look, defBody st_is_look, defScope st_is_look, [], []⟩
def d_seen_in : He.DefD := ⟨("seen_in", none), "seen_in", "seen_in", defArgs st_seen_in, defBody st_seen_in, defScope st_seen_in, [], []⟩
def d_Sight_init : He.DefD := ⟨("Sight", some "__init__"), "__init__", "Sight.__init__", defArgs st_Sight_init, defBody st_Sight_init, defScope st_Sight_init, [.non], []⟩
def d_Sight_eq : He.DefD := ⟨("Sight", some "__eq__"), "__eq__", "Sight.__eq__", defArgs st_Sight_eq, defBody st_Sight_eq, defScope st_Sight_eq, [], []⟩
def d_check_sight : He.DefD := ⟨("check_sight", none), "check_sight", "check_sight", defArgs st_check_sight, defBody st_check_sight, defScope st_check_sight, [], []⟩
def d_check_name : He.DefD := ⟨("check_name", none), "check_name", "check_name", defArgs st_check_name, defBody st_check_name, defScope st_check_name, [], []⟩
def d_check_player : He.DefD := ⟨("check_player", none), "check_player", "check_player", defArgs st_check_player, defBody st_check_player, defScope st_check_player, [], []⟩
def d_Sight_moments : He.DefD := ⟨("Sight", some "moments"), "moments", "Sight.moments", defArgs st_Sight_moments, defBody st_Sight_moments, defScope st_Sight_moments, [], []⟩
def d_steps_of : He.DefD := ⟨("steps_of", none), "steps_of", "steps_of", defArgs st_steps_of, defBody st_steps_of, defScope st_steps_of, [], []⟩
def d_Sight_players : He.DefD := ⟨("Sight", some "players"), "players", "Sight.players", defArgs st_Sight_players, defBody st_Sight_players, defScope st_Sight_players, [], []⟩
def d_known_above : He.DefD := ⟨("known_above", none), "known_above", "known_above", defArgs st_known_above, defBody st_known_above, defScope st_known_above, [], []⟩
def d_check_whole : He.DefD := ⟨("check_whole", none), "check_whole", "check_whole", defArgs st_check_whole, defBody st_check_whole, defScope st_check_whole, [], []⟩
def d_Sight_check_moment : He.DefD := ⟨("Sight", some "check_moment"), "check_moment", "Sight.check_moment", defArgs st_Sight_check_moment, defBody st_Sight_check_moment, defScope st_Sight_check_moment, [], []⟩
def d_Sight_tops : He.DefD := ⟨("Sight", some "tops"), "tops", "Sight.tops", defArgs st_Sight_tops, defBody st_Sight_tops, defScope st_Sight_tops, [], []⟩
def d_begins_before : He.DefD := ⟨("begins_before", none), "begins_before", "begins_before", defArgs st_begins_before, defBody st_begins_before, defScope st_begins_before, [], []⟩
def d_least_of_2 : He.DefD := ⟨("least_of", none), "least_of", "least_of", defArgs st_least_of_2, defBody st_least_of_2, defScope st_least_of_2, [], []⟩
def d_stretches : He.DefD := ⟨("stretches", none), "stretches", "stretches", defArgs st_stretches, defBody st_stretches, defScope st_stretches, [], []⟩
def d_l_apart : He.DefD := ⟨("_law_apart", none), "_law_apart", "_law_apart", defArgs st_l_apart, defBody st_l_apart, defScope st_l_apart, [], []⟩
def d_l_known : He.DefD := ⟨("_law_known", none), "_law_known", "_law_known", defArgs st_l_known, defBody st_l_known, defScope st_l_known, [], []⟩
def d_l_local : He.DefD := ⟨("_law_local", none), "_law_local", "_law_local", defArgs st_l_local, defBody st_l_local, defScope st_l_local, [], []⟩
def d_l_least : He.DefD := ⟨("_law_least", none), "_law_least", "_law_least", defArgs st_l_least, defBody st_l_least, defScope st_l_least, [], []⟩
def d_l_stretches : He.DefD := ⟨("_law_stretches", none), "_law_stretches", "_law_stretches", defArgs st_l_stretches, defBody st_l_stretches, defScope st_l_stretches, [], []⟩
def d_l_seen : He.DefD := ⟨("_law_seen", none), "_law_seen", "_law_seen", defArgs st_l_seen, defBody st_l_seen, defScope st_l_seen, [], []⟩
def d_l_cup : He.DefD := ⟨("_law_cup", none), "_law_cup", "_law_cup", defArgs st_l_cup, defBody st_l_cup, defScope st_l_cup, [], []⟩
def d_l_mixed : He.DefD := ⟨("_law_mixed", none), "_law_mixed", "_law_mixed", defArgs st_l_mixed, defBody st_l_mixed, defScope st_l_mixed, [], []⟩
def d_l_wild : He.DefD := ⟨("_law_wild", none), "_law_wild", "_law_wild", defArgs st_l_wild, defBody st_l_wild, defScope st_l_wild, [], []⟩
def d_l_looks : He.DefD := ⟨("_law_looks", none), "_law_looks", "_law_looks", defArgs st_l_looks, defBody st_l_looks, defScope st_l_looks, [], []⟩
def d_l_lifted : He.DefD := ⟨("_law_lifted", none), "_law_lifted", "_law_lifted", defArgs st_l_lifted, defBody st_l_lifted, defScope st_l_lifted, [], []⟩
def d_l_hidden : He.DefD := ⟨("_law_hidden", none), "_law_hidden", "_law_hidden", defArgs st_l_hidden, defBody st_l_hidden, defScope st_l_hidden, [], []⟩
def d_l_crew : He.DefD := ⟨("_law_crew", none), "_law_crew", "_law_crew", defArgs st_l_crew, defBody st_l_crew, defScope st_l_crew, [], []⟩
def d_l_pump : He.DefD := ⟨("_law_pump", none), "_law_pump", "_law_pump", defArgs st_l_pump, defBody st_l_pump, defScope st_l_pump, [], []⟩
def d_law_3 : He.DefD := ⟨("law", none), "law", "law", defArgs st_law_3, defBody st_law_3, defScope st_law_3, [], []⟩
def fn : List He.DefD := [d_is_name, d_are_names, d_are_players, d_go_together, d_is_tops, d_is_whole, d_is_look, d_seen_in, d_Sight_init, d_Sight_eq, d_check_sight, d_check_name, d_check_player, d_Sight_moments, d_steps_of, d_Sight_players, d_known_above, d_check_whole, d_Sight_check_moment, d_Sight_tops, d_begins_before, d_least_of_2, d_stretches, d_l_apart, d_l_known, d_l_local, d_l_least, d_l_stretches, d_l_seen, d_l_cup, d_l_mixed, d_l_wild, d_l_looks, d_l_lifted, d_l_hidden, d_l_crew, d_l_pump, d_law_3]
def fa0 : List He.Fa := [.free "len", .free "isinstance", .free "str", .str "LETTERS" "abcdefghijklmnopqrstuvwxyz", .glo "is_name", .free "list", .free "set", .glo "are_names", .free "bool", .free "int", .glo "is_tops", .glo "is_whole", .free "tuple", .free "max", .glo "go_together", .glo "is_look", .glo "are_players", .cls "Sight", .noat "Sight" "crew", .glo "seen_in", .noat "Sight" "seen", .glo "Sight", .glo "check_name", .free "sorted", .meth "Sight" "moments", .glo "check_whole", .meth "Sight" "check_moment", .meth "Sight" "players", .glo "known_above", .meth "Sight" "tops", .glo "steps_of", .glo "begins_before", .glo "check_sight", .glo "check_player", .glo "least_of", .free "range", .glo "_law_known", .glo "_law_cup", .glo "_law_mixed", .free "min"]
def fa1 : List He.Fa := [.glo "_law_lifted", .mkr "Sight", .meth "Sight" "__eq__", .glo "stretches", .glo "_law_apart", .glo "_law_local", .glo "_law_least", .glo "_law_stretches", .glo "_law_seen", .glo "_law_wild", .glo "_law_looks", .glo "_law_hidden", .glo "_law_crew", .glo "_law_pump", .glo "law"]
def fa : List He.Fa := fa0 ++ fa1
def er_InvalidLook : ErrD := ⟨"InvalidLook", "InvalidLook.__init__", "value", inside 0 (top 6)⟩
def er_InvalidList : ErrD := ⟨"InvalidList", "InvalidList.__init__", "value", inside 0 (top 5)⟩
def er_InvalidSight : ErrD := ⟨"InvalidSight", "InvalidSight.__init__", "value", inside 0 (top 7)⟩
def er_InvalidName : ErrD := ⟨"InvalidName", "InvalidName.__init__", "value", inside 0 (top 3)⟩
def er_Unknown : ErrD := ⟨"Unknown", "Unknown.__init__", "which", inside 0 (top 8)⟩
def er_InvalidNumber : ErrD := ⟨"InvalidNumber", "InvalidNumber.__init__", "value", inside 0 (top 4)⟩
def er : List ErrD := [er_InvalidLook, er_InvalidList, er_InvalidSight, er_InvalidName, er_Unknown, er_InvalidNumber]
def exs (K : PySem.W.Frag) : List Bool := [isiB K "Sight", selfB K "Sight", eqcB K "Sight"]
def ex (K : PySem.W.Frag) : Bool := (exs K).all id
abbrev R : PySem.W.OpenRow := PySem.W.OpenLaw.row PySem.Challenge.rw_seentops_k10_least_stretches
abbrev hk : PySem.W.Hook := hookH PySem.Challenge.pw_seentops_k10_least_stretches 5 fa fn er ex
def ob (s : PySem.W.SharedT) : AlH := obsHG PySem.Challenge.pw_seentops_k10_least_stretches 5 fa fn er ex (HandSHeadRun.getT s)
theorem ob_eq (s : PySem.W.SharedT) : ob s = hk.obs s.abs := obsHG_eq (HandSHeadRun.getT_eq s)
def loose0 : List Str := ["_wall", "TopsError", "InvalidName", "InvalidNumber", "InvalidList", "InvalidLook", "InvalidSight", "Unknown", "LETTERS", "is_whole", "is_name", "are_names", "check_name", "check_whole", "is_tops", "are_players", "is_look", "go_together", "seen_in", "Sight", "known_above", "check_sight", "check_player", "steps_of"]
def loose1 : List Str := ["begins_before", "least_of", "stretches", "_law_pump", "_law_cup", "_law_crew", "_law_mixed", "_law_lifted", "_law_hidden", "_law_looks", "_law_wild", "_law_seen", "_law_known", "_law_stretches", "_law_least", "_law_met", "_law_table", "_law_local", "_law_apart"]
def loose : List Str := loose0 ++ loose1
theorem run (w : World) : HandSHeadRun.RunEq R (PySem.W.view R.prog [48]) hk ob 8000 loose w := by
  intro os
  kernel_rfl
end Lk10
namespace DL
open PySem L2
inductive D where
  | non | bl (b : Bool) | int (i : Int) | str (x : Str)
  | lst (xs : List D) | tup (xs : List D)
  | dic (kvs : List (Key × D)) | dct (kvs : List (List Key × D))
  | obj (C : Addr) (fs : List (Str × D))
  /-- a list of ints that is only read (the script) -/
  | scr (ns : List Int)
  | vv (v : V)
  /-- a caught exception of class C: its dict, its one field -/
  | exc (a C dd : Addr) (f : Str) (x : D)
  /-- the very thing at a -/
  | at (a : Addr) (x : D)
def D.strip : D → D
  | .at _ x => x.strip
  | x => x
inductive Cn where
  | l (xs : List D) | k (kvs : List (Key × D)) | t (kvs : List (List Key × D)) | ob (C : Addr) (fs : List (Str × D))
def Cn.fz : Cn → D
  | .l xs => .lst xs
  | .k kvs => .dic kvs
  | .t kvs => .dct kvs
  | .ob C fs => .obj C fs
section
variable (K : PySem.W.Frag) (F : Hp)
mutual
inductive Rep : V → D → Prop
  | non : Rep .non .non
  | bl (b : Bool) : Rep (.bl b) (.bl b)
  | int (i : Int) : Rep (.int i) (.int i)
  | str (x : Str) : Rep (.str x) (.str x)
  | lst {a : Addr} {vs : List V} {ds : List D} : F a = some (.lst vs) → RepL vs ds → Rep (.ref a) (.lst ds)
  | tup {a : Addr} {vs : List V} {ds : List D} : F a = some (.tup vs) → RepL vs ds → Rep (.ref a) (.tup ds)
  | scr {a : Addr} (ns : List Int) : SqL K F a (ns.map V.int) → Rep (.ref a) (.scr ns)
  | dic {a : Addr} {vs : List (Key × V)} {ds : List (Key × D)} : F a = some (.dK vs) → RepK vs ds → Rep (.ref a) (.dic ds)
  | dct {a : Addr} {vs : List (List Key × V)} {ds : List (List Key × D)} : F a = some (.dT vs) → RepT vs ds → Rep (.ref a) (.dct ds)
  | obj {a C dx : Addr} {vs : List (Str × V)} {ds : List (Str × D)} : F a = some (.ins C dx vs) → RepF vs ds → Rep (.ref a) (.obj C ds)
  | vv (v : V) : Rep v (.vv v)
  | exc {a C dd : Addr} {f : Str} {v : V} {x : D} : F dd = some (.xd [(f, v)]) → Rep v x → Rep (.ref a) (.exc a C dd f x)
  | at {a : Addr} {x : D} : Rep (.ref a) x → Rep (.ref a) (.at a x)
inductive RepL : List V → List D → Prop
  | nil : RepL [] []
  | cons {v : V} {vs : List V} {d : D} {ds : List D} : Rep v d → RepL vs ds → RepL (v :: vs) (d :: ds)
inductive RepK : List (Key × V) → List (Key × D) → Prop
  | nil : RepK [] []
  | cons {k : Key} {v : V} {vs : List (Key × V)} {d : D} {ds : List (Key × D)} : Rep v d → RepK vs ds → RepK ((k, v) :: vs) ((k, d) :: ds)
inductive RepT : List (List Key × V) → List (List Key × D) → Prop
  | nil : RepT [] []
  | cons {k : List Key} {v : V} {vs : List (List Key × V)} {d : D} {ds : List (List Key × D)} : Rep v d → RepT vs ds → RepT ((k, v) :: vs) ((k, d) :: ds)
inductive RepF : List (Str × V) → List (Str × D) → Prop
  | nil : RepF [] []
  | cons {k : Str} {v : V} {vs : List (Str × V)} {d : D} {ds : List (Str × D)} : Rep v d → RepF vs ds → RepF ((k, v) :: vs) ((k, d) :: ds)
end
end
section
variable {K : PySem.W.Frag} {F F' : Hp}
mutual
theorem Rep.mono (s : Same F F') : ∀ {v : V} {d : D}, Rep K F v d → Rep K F' v d
  | _, _, .non => .non
  | _, _, .bl b => .bl b
  | _, _, .int i => .int i
  | _, _, .str x => .str x
  | _, _, .lst h r => .lst (s _ _ h) (RepL.mono s r)
  | _, _, .tup h r => .tup (s _ _ h) (RepL.mono s r)
  | _, _, .scr ns h => .scr ns (s.seq h)
  | _, _, .dic h r => .dic (s _ _ h) (RepK.mono s r)
  | _, _, .dct h r => .dct (s _ _ h) (RepT.mono s r)
  | _, _, .obj h r => .obj (s _ _ h) (RepF.mono s r)
  | _, _, .vv v => .vv v
  | _, _, .exc h r => .exc (s _ _ h) (Rep.mono s r)
  | _, _, .at r => .at (Rep.mono s r)
theorem RepL.mono (s : Same F F') : ∀ {vs : List V} {ds : List D}, RepL K F vs ds → RepL K F' vs ds
  | _, _, .nil => .nil
  | _, _, .cons h r => .cons (Rep.mono s h) (RepL.mono s r)
theorem RepK.mono (s : Same F F') : ∀ {vs : List (Key × V)} {ds : List (Key × D)}, RepK K F vs ds → RepK K F' vs ds
  | _, _, .nil => .nil
  | _, _, .cons h r => .cons (Rep.mono s h) (RepK.mono s r)
theorem RepT.mono (s : Same F F') : ∀ {vs : List (List Key × V)} {ds : List (List Key × D)}, RepT K F vs ds → RepT K F' vs ds
  | _, _, .nil => .nil
  | _, _, .cons h r => .cons (Rep.mono s h) (RepT.mono s r)
theorem RepF.mono (s : Same F F') : ∀ {vs : List (Str × V)} {ds : List (Str × D)}, RepF K F vs ds → RepF K F' vs ds
  | _, _, .nil => .nil
  | _, _, .cons h r => .cons (Rep.mono s h) (RepF.mono s r)
end
theorem RepL.len : ∀ {vs : List V} {ds : List D}, RepL K F vs ds → vs.length = ds.length
  | _, _, .nil => rfl
  | _, _, .cons _ r => congrArg (· + 1) (RepL.len r)
theorem RepL.get : ∀ {vs : List V} {ds : List D} {i : Nat} {d : D}, RepL K F vs ds → ds[i]? = some d → ∃ v, vs[i]? = some v ∧ Rep K F v d
  | _, _, _, _, .nil, e => by simp at e
  | _, _, 0, _, .cons h _, e => ⟨_, rfl, by cases e; exact h⟩
  | _, _, i + 1, _, .cons _ r, e => RepL.get (i := i) r e
theorem RepL.get' : ∀ {vs : List V} {ds : List D} {i : Nat} {v : V}, RepL K F vs ds → vs[i]? = some v → ∃ d, ds[i]? = some d ∧ Rep K F v d
  | _, _, _, _, .nil, e => by simp at e
  | _, _, 0, _, .cons h _, e => ⟨_, rfl, by cases e; exact h⟩
  | _, _, i + 1, _, .cons _ r, e => RepL.get' (i := i) r e
theorem RepL.app : ∀ {vs us : List V} {ds es : List D}, RepL K F vs ds → RepL K F us es → RepL K F (vs ++ us) (ds ++ es)
  | _, _, _, _, .nil, s => s
  | _, _, _, _, .cons h r, s => .cons h (RepL.app r s)
theorem RepL.take : ∀ {vs : List V} {ds : List D} (n : Nat), RepL K F vs ds → RepL K F (vs.take n) (ds.take n)
  | _, _, 0, _ => .nil
  | _, _, _ + 1, .nil => .nil
  | _, _, n + 1, .cons h r => .cons h (RepL.take n r)
theorem RepL.drop : ∀ {vs : List V} {ds : List D} (n : Nat), RepL K F vs ds → RepL K F (vs.drop n) (ds.drop n)
  | _, _, 0, r => r
  | _, _, _ + 1, .nil => .nil
  | _, _, n + 1, .cons _ r => RepL.drop n r
theorem RepL.set {v : V} {d : D} (q : Rep K F v d) : ∀ {vs : List V} {ds : List D} (n : Nat), RepL K F vs ds → RepL K F (vs.set n v) (ds.set n d)
  | _, _, _, .nil => .nil
  | _, _, 0, .cons _ r => .cons q r
  | _, _, n + 1, .cons h r => .cons h (RepL.set q n r)
theorem RepL.ints : ∀ {vs : List V} {ns : List Int}, RepL K F vs (ns.map D.int) → vs = ns.map V.int
  | _, [], .nil => rfl
  | _, n :: ns, .cons h r => by
    cases h
    rw [RepL.ints (ns := ns) r]
    rfl
theorem RepL.strs : ∀ {vs : List V} {ns : List Str}, RepL K F vs (ns.map D.str) → vs = ns.map V.str
  | _, [], .nil => rfl
  | _, n :: ns, .cons h r => by
    cases h
    rw [RepL.strs (ns := ns) r]
    rfl
theorem repInts : ∀ ns : List Int, RepL K F (ns.map V.int) (ns.map D.int)
  | [] => .nil
  | n :: ns => .cons (.int n) (repInts ns)
theorem repStrs : ∀ ns : List Str, RepL K F (ns.map V.str) (ns.map D.str)
  | [] => .nil
  | n :: ns => .cons (.str n) (repStrs ns)
end
inductive SD where
  | d (x : D) | o (c : Cn) | p (c : Cn)
abbrev Dl := List (Option SD)
def SD.fz : SD → D
  | .d x => x
  | .o c => c.fz
  | .p c => c.fz
def CnR (K : PySem.W.Frag) (F : Hp) : HO → Cn → Prop
  | .lst vs, .l xs => RepL K F vs xs
  | .dK vs, .k xs => RepK K F vs xs
  | .dT vs, .t xs => RepT K F vs xs
  | .ins C' _ vs, .ob C xs => C' = C ∧ RepF K F vs xs
  | _, _ => False
theorem CnR.mono {K : PySem.W.Frag} {F F' : Hp} (s : Same F F') {ho : HO} {c : Cn} (h : CnR K F ho c) : CnR K F' ho c := by
  cases c <;> cases ho <;> first | exact h.elim | exact RepL.mono s h | exact RepK.mono s h | exact RepT.mono s h | exact ⟨h.1, RepF.mono s h.2⟩
def OwnA (K : PySem.W.Frag) (F H : Hp) (a : Addr) (c : Cn) : Prop := F a = none ∧ ∃ ho, H a = some ho ∧ CnR K F ho c
theorem CnR.lst {K : PySem.W.Frag} {F : Hp} {ho : HO} {xs : List D} (h : CnR K F ho (.l xs)) : ∃ vs, ho = .lst vs ∧ RepL K F vs xs := by
  cases ho <;> first | exact h.elim | exact ⟨_, rfl, h⟩
theorem CnR.dK {K : PySem.W.Frag} {F : Hp} {ho : HO} {xs : List (Key × D)} (h : CnR K F ho (.k xs)) : ∃ vs, ho = .dK vs ∧ RepK K F vs xs := by
  cases ho <;> first | exact h.elim | exact ⟨_, rfl, h⟩
theorem CnR.dT {K : PySem.W.Frag} {F : Hp} {ho : HO} {xs : List (List Key × D)} (h : CnR K F ho (.t xs)) : ∃ vs, ho = .dT vs ∧ RepT K F vs xs := by
  cases ho <;> first | exact h.elim | exact ⟨_, rfl, h⟩
theorem CnR.ob {K : PySem.W.Frag} {F : Hp} {ho : HO} {C : Addr} {xs : List (Str × D)} (h : CnR K F ho (.ob C xs)) : ∃ dx vs, ho = .ins C dx vs ∧ RepF K F vs xs := by
  cases ho <;> first | exact h.elim | exact ⟨_, _, by rw [h.1], h.2⟩
def isOwn (δ : Dl) (i : Nat) : Prop := ∃ c, δ[i]? = some (some (.o c)) ∨ δ[i]? = some (some (.p c))
def Ow (σ : St) (δ : Dl) (b : Addr) : Prop := ∃ i, isOwn δ i ∧ σ[i]? = some (some (.ref b))
structure Bs where
  F : Hp
  H : Hp
  O : List Addr
  σ : St
structure RB (K : PySem.W.Frag) (B : Bs) (F H : Hp) (σ : St) (δ : Dl) : Prop where
  sub : Same F H
  len : δ.length = σ.length
  dat : ∀ (i : Nat) (x : D), δ[i]? = some (some (.d x)) → ∃ v, σ[i]? = some (some v) ∧ Rep K F v x
  own : ∀ (i : Nat) (c : Cn), δ[i]? = some (some (.o c)) → ∃ a, σ[i]? = some (some (.ref a)) ∧ OwnA K F H a c ∧ B.H a = none
  par : ∀ (i : Nat) (c : Cn), δ[i]? = some (some (.p c)) → ∃ a, σ[i]? = some (some (.ref a)) ∧ OwnA K F H a c ∧ a ∈ B.O ∧ B.σ[i]? = some (some (.ref a))
  apt : ∀ (i j : Nat) (a : Addr), isOwn δ i → isOwn δ j → σ[i]? = some (some (.ref a)) → σ[j]? = some (some (.ref a)) → i = j
  f0 : Same B.F F
  h0 : ∀ b o, B.H b = some o → b ∉ B.O → H b = some o
  hO : ∀ b ∈ B.O, F b = none ∧ (∃ o, H b = some o) ∧ ∃ o, B.H b = some o
  nw : ∀ b o, F b = some o → (∃ o', B.F b = some o') ∨ B.H b = none
structure Stp (σ : St) (δ δ' : Dl) (F H F' H' : Hp) : Prop where
  f : Same F F'
  h : ∀ b o, H b = some o → ¬ Ow σ δ b → H' b = some o
  n : ∀ b o, F' b = some o → (∃ o', F b = some o') ∨ H b = none ∨ Ow σ δ b
  o : ∀ b, Ow σ δ' b → Ow σ δ b
  k : ∀ b o, H b = some o → ∃ o', H' b = some o'
theorem Stp.refl {σ : St} {δ : Dl} {F H : Hp} : Stp σ δ δ F H F H := ⟨.refl _, fun _ _ h _ => h, fun _ o h => .inl ⟨o, h⟩, fun _ h => h, fun _ o h => ⟨o, h⟩⟩
theorem Stp.trans {σ : St} {δ δ1 δ2 : Dl} {F H F1 H1 F2 H2 : Hp} (a : Stp σ δ δ1 F H F1 H1) (b : Stp σ δ1 δ2 F1 H1 F2 H2) : Stp σ δ δ2 F H F2 H2 := by
  refine ⟨a.f.trans b.f, fun c o e n => b.h c o (a.h c o e n) fun z => n (a.o c z), fun c o e => ?_, fun c z => a.o c (b.o c z), fun c o e => let ⟨o', e'⟩ := a.k c o e; b.k c o' e'⟩
  rcases b.n c o e with ⟨o', e1⟩ | e1 | e1
  · exact a.n c o' e1
  · by_cases q : Ow σ δ c
    · exact .inr (.inr q)
    · cases e2 : H c with
      | none => exact .inr (.inl rfl)
      | some u =>
        rw [a.h c u e2 q] at e1
        cases e1
  · exact .inr (.inr (a.o c e1))
theorem OwnA.step {K : PySem.W.Frag} {σ : St} {δ δ' : Dl} {F H F' H' : Hp} {a : Addr} {c : Cn} (h : OwnA K F H a c) (s : Stp σ δ δ' F H F' H') (n : ¬ Ow σ δ a) : OwnA K F' H' a c := by
  obtain ⟨h1, ho, h2, h3⟩ := h
  refine ⟨?_, ho, s.h _ _ h2 n, h3.mono s.f⟩
  cases e : F' a with
  | none => rfl
  | some o =>
    rcases s.n a o e with ⟨o', q⟩ | q | q
    · rw [h1] at q; cases q
    · rw [h2] at q; cases q
    · exact absurd q n
def SR (K : PySem.W.Frag) (B : Bs) (H0 F H : Hp) (σ : St) (δ : Dl) (v : V) : SD → Prop
  | .d x => Rep K F v x
  | .o c => ∃ a, v = .ref a ∧ OwnA K F H a c ∧ ¬ Ow σ δ a ∧ B.H a = none ∧ H0 a = none
  | .p _ => False
abbrev XQ := Addr → Str → D → Dl → Prop
abbrev WE := Dl → (SD → Dl → Prop) → XQ → Prop
abbrev WF := Dl → (D → Dl → Prop) → XQ → Prop
inductive Op where
  | v (i : Nat) | x (d : D)
abbrev WO := Dl → (Op → Dl → Prop) → XQ → Prop
def XL (K : PySem.W.Frag) (B : Bs) (W : WX) (σ : St) (E : XQ) : Prop :=
  ∀ (F' H' : Hp) (δ' : Dl) (C dd : Addr) (f : Str) (v : V) (x : D), RB K B F' H' σ δ' → H' dd = some (.xd [(f, v)]) → B.H dd = none → Rep K F' v x → E C f x δ' → W (.ref C) (some dd) σ H'
def Post (K : PySem.W.Frag) (B : Bs) (σ : St) (δ : Dl) (F H : Hp) (Q : SD → Dl → Prop) (Qh : VK) : Prop :=
  ∀ v F' H' sd δ', RB K B F' H' σ δ' → Stp σ δ δ' F H F' H' → SR K B H F' H' σ δ' v sd → Q sd δ' → Qh v H'
def PostF (K : PySem.W.Frag) (B : Bs) (σ : St) (δ : Dl) (F H : Hp) (Q : D → Dl → Prop) (Qh : VK) : Prop :=
  ∀ v F' H' x δ', RB K B F' H' σ δ' → Stp σ δ δ' F H F' H' → Rep K F' v x → Q x δ' → Qh v H'
def OpV (K : PySem.W.Frag) (F : Hp) (σ : St) (v : V) : Op → Prop
  | .v i => σ[i]? = some (some v)
  | .x d => Rep K F v d
def PostO (K : PySem.W.Frag) (B : Bs) (σ : St) (δ : Dl) (F H : Hp) (Q : Op → Dl → Prop) (Qh : VK) : Prop :=
  ∀ v F' H' x δ', RB K B F' H' σ δ' → Stp σ δ δ' F H F' H' → OpV K F' σ v x → Q x δ' → Qh v H'
structure Fam where
  ι : Type
  X : ι → Cx
  K : PySem.W.Frag
  hK : ∀ i, (X i).K = K
def DE (Φ : Fam) (W : WX) (e : Expr) (w : WE) : Prop :=
  ∃ t, (∀ i, PE (Φ.X i) e t) ∧ ∀ (B : Bs) (F H : Hp) (σ : St) (δ : Dl) (Q : SD → Dl → Prop) (E : XQ) (Qh : VK), RB Φ.K B F H σ δ → w δ Q E → Post Φ.K B σ δ F H Q Qh → XL Φ.K B W σ E → t σ H Qh
def DF (Φ : Fam) (W : WX) (e : Expr) (w : WF) : Prop :=
  ∃ t, (∀ i, PE (Φ.X i) e t) ∧ ∀ (B : Bs) (F H : Hp) (σ : St) (δ : Dl) (Q : D → Dl → Prop) (E : XQ) (Qh : VK), RB Φ.K B F H σ δ → w δ Q E → PostF Φ.K B σ δ F H Q Qh → XL Φ.K B W σ E → t σ H Qh
def DO (Φ : Fam) (W : WX) (e : Expr) (w : WO) : Prop :=
  ∃ t, (∀ i, PE (Φ.X i) e t) ∧ ∀ (B : Bs) (F H : Hp) (σ : St) (δ : Dl) (Q : Op → Dl → Prop) (E : XQ) (Qh : VK), RB Φ.K B F H σ δ → w δ Q E → PostO Φ.K B σ δ F H Q Qh → XL Φ.K B W σ E → t σ H Qh
theorem RB.lay {K : PySem.W.Frag} {B : Bs} {F H : Hp} {σ : St} {δ : Dl} {p : Addr} {ho : HO} (r : RB K B F H σ δ) (hp : H p = none) : RB K B F (upd H p ho) σ δ := by
  have k : Same H (upd H p ho) := fun b o e => by rw [upd_ne (ne_of_none e hp)]; exact e
  have ka : ∀ {a c}, OwnA K F H a c → OwnA K F (upd H p ho) a c := fun {a c} ⟨h1, u, h2, h3⟩ => ⟨h1, u, k _ _ h2, h3⟩
  exact ⟨r.sub.trans k, r.len, r.dat, fun i c e => let ⟨a, h1, h2, h3⟩ := r.own i c e; ⟨a, h1, ka h2, h3⟩, fun i c e => let ⟨a, h1, h2, h3⟩ := r.par i c e; ⟨a, h1, ka h2, h3⟩, r.apt, r.f0,
    fun b o e n => k _ _ (r.h0 b o e n), fun b hb => let ⟨h1, ⟨o, h2⟩, h3⟩ := r.hO b hb; ⟨h1, ⟨o, k _ _ h2⟩, h3⟩, r.nw⟩
theorem RB.hnone {K : PySem.W.Frag} {B : Bs} {F H : Hp} {σ : St} {δ : Dl} {p : Addr} (r : RB K B F H σ δ) (hp : H p = none) : B.H p = none := by
  cases e : B.H p with
  | none => rfl
  | some o =>
    by_cases hb : p ∈ B.O
    · obtain ⟨_, ⟨u, q⟩, _⟩ := r.hO p hb
      rw [hp] at q; cases q
    · rw [r.h0 p o e hb] at hp; cases hp
theorem RB.fnone {K : PySem.W.Frag} {B : Bs} {F H : Hp} {σ : St} {δ : Dl} {p : Addr} (r : RB K B F H σ δ) (hp : H p = none) : F p = none := r.sub.free hp
theorem RB.ow {K : PySem.W.Frag} {B : Bs} {F H : Hp} {σ : St} {δ : Dl} {b : Addr} (r : RB K B F H σ δ) (h : Ow σ δ b) : F b = none ∧ ∃ o, H b = some o := by
  obtain ⟨i, ⟨c, e | e⟩, hs⟩ := h
  · obtain ⟨a, h1, ⟨h2, ho, h3, _⟩, _⟩ := r.own i c e
    rw [hs] at h1; cases h1
    exact ⟨h2, ho, h3⟩
  · obtain ⟨a, h1, ⟨h2, ho, h3, _⟩, _⟩ := r.par i c e
    rw [hs] at h1; cases h1
    exact ⟨h2, ho, h3⟩
theorem RB.now {K : PySem.W.Frag} {B : Bs} {F H : Hp} {σ : St} {δ : Dl} {p : Addr} (r : RB K B F H σ δ) (hp : H p = none) : ¬ Ow σ δ p := fun z => by
  obtain ⟨_, o, e⟩ := r.ow z
  rw [hp] at e; cases e
theorem Stp.lay {σ : St} {δ : Dl} {F H : Hp} {p : Addr} {ho : HO} (hp : H p = none) : Stp σ δ δ F H F (upd H p ho) :=
  ⟨.refl _, fun b o e _ => by rw [upd_ne (ne_of_none e hp)]; exact e, fun b o e => .inl ⟨o, e⟩, fun _ h => h, fun b o e => ⟨o, by rw [upd_ne (ne_of_none e hp)]; exact e⟩⟩
theorem RB.freeze {K : PySem.W.Frag} {B : Bs} {F H : Hp} {σ : St} {δ : Dl} {p : Addr} {ho : HO} (r : RB K B F H σ δ) (hp : H p = some ho) (hF : F p = none) (hn : ¬ Ow σ δ p) (hb : B.H p = none) : RB K B (upd F p ho) H σ δ := by
  have k : Same F (upd F p ho) := fun b o e => by rw [upd_ne (ne_of_none e hF)]; exact e
  refine ⟨fun b o e => ?_, r.len, fun i x e => let ⟨v, h1, h2⟩ := r.dat i x e; ⟨v, h1, h2.mono k⟩, fun i c e => ?_, fun i c e => ?_, r.apt, r.f0.trans k, r.h0, fun b h => ?_, fun b o e => ?_⟩
  · by_cases hb : b = p
    · subst hb; rw [upd_same] at e; cases e; exact hp
    · rw [upd_ne hb] at e; exact r.sub _ _ e
  · obtain ⟨a, h1, ⟨h2, u, h3, h4⟩, h5⟩ := r.own i c e
    have na : a ≠ p := fun z => hn ⟨i, ⟨c, .inl e⟩, by rw [← z]; exact h1⟩
    exact ⟨a, h1, ⟨by rw [upd_ne na]; exact h2, u, h3, h4.mono k⟩, h5⟩
  · obtain ⟨a, h1, ⟨h2, u, h3, h4⟩, h5⟩ := r.par i c e
    have na : a ≠ p := fun z => hn ⟨i, ⟨c, .inr e⟩, by rw [← z]; exact h1⟩
    exact ⟨a, h1, ⟨by rw [upd_ne na]; exact h2, u, h3, h4.mono k⟩, h5⟩
  · obtain ⟨h1, h2, o, h3⟩ := r.hO b h
    have nb : b ≠ p := fun z => by rw [z, hb] at h3; cases h3
    exact ⟨by rw [upd_ne nb]; exact h1, h2, o, h3⟩
  · by_cases hb' : b = p
    · subst hb'; exact .inr hb
    · rw [upd_ne hb'] at e; exact r.nw _ _ e
theorem Cn.rep {K : PySem.W.Frag} {F : Hp} {a : Addr} {ho : HO} {c : Cn} (hF : F a = some ho) (h : CnR K F ho c) : Rep K F (.ref a) c.fz := by
  cases c with
  | l xs => obtain ⟨vs, rfl, h⟩ := h.lst; exact .lst hF h
  | k xs => obtain ⟨vs, rfl, h⟩ := h.dK; exact .dic hF h
  | t xs => obtain ⟨vs, rfl, h⟩ := h.dT; exact .dct hF h
  | ob C xs => obtain ⟨dx, vs, rfl, h'⟩ := h.ob; exact .obj hF h'
theorem Stp.past {F H F' H' : Hp} {σ : St} {δ δ' : Dl} {p : Addr} (s : Stp σ δ δ' F H F' H') (h : H' p = none) : H p = none := by
  cases e : H p with
  | none => rfl
  | some o =>
    obtain ⟨o', q⟩ := s.k p o e
    rw [h] at q; cases q
theorem SR.old {K : PySem.W.Frag} {B : Bs} {H0 H1 F H : Hp} {σ : St} {δ : Dl} {v : V} (h : ∀ p, H1 p = none → H0 p = none) : ∀ {sd : SD}, SR K B H1 F H σ δ v sd → SR K B H0 F H σ δ v sd
  | .d _, r => r
  | .o _, ⟨a, e, r, n, b, z⟩ => ⟨a, e, r, n, b, h a z⟩
  | .p _, r => r.elim
theorem SR.frz {K : PySem.W.Frag} {B : Bs} {F H F' H' : Hp} {σ : St} {δ δ' : Dl} {v : V} {sd : SD} (r : RB K B F' H' σ δ') (s : Stp σ δ δ' F H F' H') (h : SR K B H F' H' σ δ' v sd) :
    ∃ F2, RB K B F2 H' σ δ' ∧ Stp σ δ δ' F H F2 H' ∧ Rep K F2 v sd.fz := by
  cases sd with
  | d x => exact ⟨F', r, s, h⟩
  | p c => exact h.elim
  | o c =>
    obtain ⟨a, rfl, ⟨h1, ho, h2, h3⟩, h4, h5, h6⟩ := h
    have k : Same F' (upd F' a ho) := fun b o e => by rw [upd_ne (ne_of_none e h1)]; exact e
    refine ⟨upd F' a ho, r.freeze h2 h1 h4 h5, ⟨s.f.trans k, s.h, fun b o e => ?_, s.o, s.k⟩, Cn.rep upd_same (h3.mono k)⟩
    by_cases hb : b = a
    · subst hb; exact .inr (.inl h6)
    · rw [upd_ne hb] at e
      exact s.n b o e
theorem Post.after {K : PySem.W.Frag} {B : Bs} {σ : St} {δ δ1 : Dl} {F H F1 H1 : Hp} {Q : SD → Dl → Prop} {Qh : VK} (p : Post K B σ δ F H Q Qh) (s : Stp σ δ δ1 F H F1 H1) : Post K B σ δ1 F1 H1 Q Qh :=
  fun v F' H' sd δ' r s' sr q => p v F' H' sd δ' r (s.trans s') (sr.old fun _ z => s.past z) q
theorem PostF.after {K : PySem.W.Frag} {B : Bs} {σ : St} {δ δ1 : Dl} {F H F1 H1 : Hp} {Q : D → Dl → Prop} {Qh : VK} (p : PostF K B σ δ F H Q Qh) (s : Stp σ δ δ1 F H F1 H1) : PostF K B σ δ1 F1 H1 Q Qh :=
  fun v F' H' sd δ' r s' sr q => p v F' H' sd δ' r (s.trans s') sr q
theorem PostF.of {K : PySem.W.Frag} {B : Bs} {σ : St} {δ : Dl} {F H : Hp} {Q : D → Dl → Prop} {Qh : VK} (p : PostF K B σ δ F H Q Qh) : Post K B σ δ F H (fun sd δ' => Q sd.fz δ') Qh := fun v F' H' sd δ' r s sr q => by
  obtain ⟨F2, r2, s2, h2⟩ := sr.frz r s
  exact p v F2 H' sd.fz δ' r2 s2 h2 q
section
variable {Φ : Fam} {W : WX} {e a b : Expr}
theorem DE.f {w : WE} (h : DE Φ W e w) : DF Φ W e (fun δ Q E => w δ (fun sd δ' => Q sd.fz δ') E) := by
  obtain ⟨t, h1, h2⟩ := h
  exact ⟨t, h1, fun B F H σ δ Q E Qh r hw p x => h2 B F H σ δ _ E Qh r hw p.of x⟩
theorem DF.o {w : WF} (h : DF Φ W e w) : DO Φ W e (fun δ Q E => w δ (fun x δ' => Q (.x x) δ') E) := by
  obtain ⟨t, h1, h2⟩ := h
  exact ⟨t, h1, fun B F H σ δ Q E Qh r hw p x => h2 B F H σ δ _ E Qh r hw (fun v F' H' d δ' r' s' rep q => p v F' H' (.x d) δ' r' s' rep q) x⟩
theorem DF.s {w : WF} (h : DF Φ W e w) : DE Φ W e (fun δ Q E => w δ (fun x δ' => Q (.d x) δ') E) := by
  obtain ⟨t, h1, h2⟩ := h
  exact ⟨t, h1, fun B F H σ δ Q E Qh r hw p x => h2 B F H σ δ _ E Qh r hw (fun v F' H' d δ' r' s' rep q => p v F' H' (.d d) δ' r' s' rep q) x⟩
end
theorem Rep.strip {K : PySem.W.Frag} {F : Hp} {v : V} : ∀ {d : D}, Rep K F v d → Rep K F v d.strip
  | .at _ x, h => by
    cases h with
    | «at» h => exact Rep.strip (d := x) h
  | .non, h | .bl _, h | .int _, h | .str _, h | .lst _, h | .tup _, h | .dic _, h | .dct _, h | .obj _ _, h | .scr _, h | .vv _, h | .exc _ _ _ _ _, h => h
def view (δ : Dl) : Op → Option D
  | .x d => some d.strip
  | .v i => match δ[i]? with
    | some (some sd) => some sd.fz.strip
    | _ => none
def PR (K : PySem.W.Frag) (F H : Hp) (v : V) (d : D) : Prop := Rep K F v d ∨ ∃ a c, v = .ref a ∧ d = c.fz ∧ OwnA K F H a c
theorem RB.view {K : PySem.W.Frag} {B : Bs} {F H : Hp} {σ : St} {δ : Dl} {v : V} {d : D} (r : RB K B F H σ δ) : ∀ {o : Op}, OpV K F σ v o → view δ o = some d → PR K F H v d
  | .x _, h, e => by cases e; exact .inl (Rep.strip h)
  | .v i, h, e => by
    unfold DL.view at e
    simp only at e
    split at e
    · rename_i sd q
      cases e
      have h' : σ[i]? = some (some v) := h
      cases sd with
      | d x => obtain ⟨u, e1, e2⟩ := r.dat i x q; rw [h'] at e1; cases e1; exact .inl e2.strip
      | o c => obtain ⟨u, e1, e2, _⟩ := r.own i c q; rw [h'] at e1; cases e1; exact .inr ⟨u, c, rfl, (by cases c <;> rfl), e2⟩
      | p c => obtain ⟨u, e1, e2, _⟩ := r.par i c q; rw [h'] at e1; cases e1; exact .inr ⟨u, c, rfl, (by cases c <;> rfl), e2⟩
    · cases e
theorem OpV.step {K : PySem.W.Frag} {F F' : Hp} {σ : St} {v : V} (s : Same F F') : ∀ {o : Op}, OpV K F σ v o → OpV K F' σ v o
  | .x _, h => Rep.mono s h
  | .v _, h => h
section
variable {K : PySem.W.Frag} {F H : Hp} {v : V}
theorem PR.int {i : Int} (h : PR K F H v (.int i)) : v = .int i := by
  rcases h with h | ⟨a, c, _, e, _⟩
  · cases h; rfl
  · cases c <;> cases e
theorem PR.bl {i : Bool} (h : PR K F H v (.bl i)) : v = .bl i := by
  rcases h with h | ⟨a, c, _, e, _⟩
  · cases h; rfl
  · cases c <;> cases e
theorem PR.str {i : Str} (h : PR K F H v (.str i)) : v = .str i := by
  rcases h with h | ⟨a, c, _, e, _⟩
  · cases h; rfl
  · cases c <;> cases e
theorem PR.non (h : PR K F H v .non) : v = .non := by
  rcases h with h | ⟨a, c, _, e, _⟩
  · cases h; rfl
  · cases c <;> cases e
theorem PR.lst {xs : List D} (s : Same F H) (h : PR K F H v (.lst xs)) : ∃ a vs, v = .ref a ∧ H a = some (.lst vs) ∧ RepL K F vs xs := by
  rcases h with h | ⟨a, c, rfl, e, h⟩
  · cases h with
    | lst h1 h2 => exact ⟨_, _, rfl, s _ _ h1, h2⟩
  · cases c with
    | l ys =>
      cases e
      obtain ⟨_, ho, h2, h3⟩ := h
      obtain ⟨vs, rfl, h4⟩ := h3.lst
      exact ⟨a, vs, rfl, h2, h4⟩
    | k ys => cases e
    | t ys => cases e
    | ob C ys => cases e
theorem PR.scr {xs : List Int} (s : Same F H) (h : PR K F H v (.scr xs)) : ∃ a, v = .ref a ∧ SqL K H a (xs.map V.int) := by
  rcases h with h | ⟨a, c, rfl, e, h⟩
  · cases h with
    | scr _ h1 => exact ⟨_, rfl, s.seq h1⟩
  · cases c <;> cases e
theorem PR.tup {xs : List D} (s : Same F H) (h : PR K F H v (.tup xs)) : ∃ a vs, v = .ref a ∧ H a = some (.tup vs) ∧ RepL K F vs xs := by
  rcases h with h | ⟨a, c, rfl, e, h⟩
  · cases h with
    | tup h1 h2 => exact ⟨_, _, rfl, s _ _ h1, h2⟩
  · cases c <;> cases e
theorem PR.dic {xs : List (Key × D)} (s : Same F H) (h : PR K F H v (.dic xs)) : ∃ a vs, v = .ref a ∧ H a = some (.dK vs) ∧ RepK K F vs xs := by
  rcases h with h | ⟨a, c, rfl, e, h⟩
  · cases h with
    | dic h1 h2 => exact ⟨_, _, rfl, s _ _ h1, h2⟩
  · cases c with
    | k ys =>
      cases e
      obtain ⟨_, ho, h2, h3⟩ := h
      obtain ⟨vs, rfl, h4⟩ := h3.dK
      exact ⟨a, vs, rfl, h2, h4⟩
    | l ys => cases e
    | t ys => cases e
    | ob C ys => cases e
theorem PR.obj {C : Addr} {xs : List (Str × D)} (s : Same F H) (h : PR K F H v (.obj C xs)) : ∃ a dx vs, v = .ref a ∧ H a = some (.ins C dx vs) ∧ RepF K F vs xs := by
  rcases h with h | ⟨a, c, rfl, e, h⟩
  · cases h with
    | obj h1 h2 => exact ⟨_, _, _, rfl, s _ _ h1, h2⟩
  · cases c with
    | ob C' ys =>
      cases e
      obtain ⟨_, ho, h2, h3⟩ := h
      obtain ⟨dx, vs, rfl, h4⟩ := h3.ob
      exact ⟨a, dx, vs, rfl, h2, h4⟩
    | l ys => cases e
    | k ys => cases e
    | t ys => cases e
theorem RepF.lookup {K : PySem.W.Frag} {F : Hp} {f : Str} : ∀ {vs : List (Str × V)} {ds : List (Str × D)} {d : D}, RepF K F vs ds → ds.lookup f = some d → ∃ v, vs.lookup f = some v ∧ Rep K F v d
  | _, _, _, .nil, e => by cases e
  | _, _, _, .cons (k := k) h r, e => by
    simp only [List.lookup] at e ⊢
    cases q : f == k with
    | true => rw [q] at e; cases e; exact ⟨_, rfl, h⟩
    | false => rw [q] at e; exact RepF.lookup r e
theorem RepF.lookup_none {K : PySem.W.Frag} {F : Hp} {f : Str} : ∀ {vs : List (Str × V)} {ds : List (Str × D)}, RepF K F vs ds → ds.lookup f = none → vs.lookup f = none
  | _, _, .nil, _ => rfl
  | _, _, .cons (k := k) h r, e => by
    simp only [List.lookup] at e ⊢
    cases q : f == k with
    | true => rw [q] at e; cases e
    | false => rw [q] at e; exact RepF.lookup_none r e
theorem RepF.len {K : PySem.W.Frag} {F : Hp} : ∀ {vs : List (Str × V)} {ds : List (Str × D)}, RepF K F vs ds → vs.length = ds.length
  | _, _, .nil => rfl
  | _, _, .cons _ r => congrArg (· + 1) (RepF.len r)
end
end DL
namespace DL
open PySem L2
section
variable {Φ : Fam} {W : WX} {a b e : Expr} {pos : Pos}
def wVar (i : Nat) : WF := fun δ Q _ => match δ[i]? with
  | some (some (.d x)) => Q x δ
  | some (some (.o c)) => Q c.fz (δ.set i (some (.d c.fz)))
  | _ => False
def oVar (i : Nat) : WO := fun δ Q _ => match δ[i]? with
  | some (some _) => Q (.v i) δ
  | _ => False
theorem ow_set {σ : St} {δ : Dl} {i : Nat} {x : D} {b : Addr} (h : Ow σ (δ.set i (some (.d x))) b) : Ow σ δ b ∧ ∀ a, σ[i]? = some (some (.ref a)) → i < δ.length → True := by
  obtain ⟨j, ⟨c, e⟩, hs⟩ := h
  refine ⟨⟨j, ⟨c, ?_⟩, hs⟩, fun _ _ _ => trivial⟩
  by_cases q : i = j
  · subst q
    by_cases l : i < δ.length
    · rw [List.getElem?_set_self l] at e
      rcases e with e | e <;> cases e
    · rw [List.getElem?_set] at e
      simp [l] at e
  · rwa [List.getElem?_set_ne q] at e
theorem RB.frzSlot {K : PySem.W.Frag} {B : Bs} {F H : Hp} {σ : St} {δ : Dl} {i : Nat} {c : Cn} (r : RB K B F H σ δ) (h : δ[i]? = some (some (.o c))) :
    ∃ a F', σ[i]? = some (some (.ref a)) ∧ RB K B F' H σ (δ.set i (some (.d c.fz))) ∧ Stp σ δ (δ.set i (some (.d c.fz))) F H F' H ∧ Rep K F' (.ref a) c.fz := by
  obtain ⟨a, hs, ⟨h1, ho, h2, h3⟩, h4⟩ := r.own i c h
  have hi : i < δ.length := (List.getElem?_eq_some_iff.mp h).1
  have k : Same F (upd F a ho) := fun b o e => by rw [upd_ne (ne_of_none e h1)]; exact e
  have oi : Ow σ δ a := ⟨i, ⟨c, .inl h⟩, hs⟩
  have oth : ∀ j c', (δ.set i (some (.d c.fz)))[j]? = some (some (.o c')) ∨ (δ.set i (some (.d c.fz)))[j]? = some (some (.p c')) → i ≠ j ∧ (δ[j]? = some (some (.o c')) ∨ δ[j]? = some (some (.p c'))) := fun j c' e => by
    by_cases q : i = j
    · subst q
      rw [List.getElem?_set_self hi] at e
      rcases e with e | e <;> cases e
    · rw [List.getElem?_set_ne q] at e
      exact ⟨q, e⟩
  have nea : ∀ j c' b, i ≠ j → (δ[j]? = some (some (.o c')) ∨ δ[j]? = some (some (.p c'))) → σ[j]? = some (some (.ref b)) → b ≠ a := fun j c' b q e hb z => by
    subst z
    exact q (r.apt i j b ⟨c, .inl h⟩ ⟨c', e⟩ hs hb)
  have rep := Cn.rep (a := a) (upd_same (H := F) (o := ho)) (h3.mono k)
  refine ⟨a, upd F a ho, hs, ⟨fun b o e => ?_, by rw [List.length_set]; exact r.len, fun j x e => ?_, fun j c' e => ?_, fun j c' e => ?_, fun j l b h5 h6 h7 h8 => ?_, r.f0.trans k, r.h0, fun b hb => ?_, fun b o e => ?_⟩, ⟨k, fun _ _ e _ => e, fun b o e => ?_, fun b z => (ow_set z).1, fun _ o e => ⟨o, e⟩⟩, rep⟩
  · by_cases q : b = a
    · subst q; rw [upd_same] at e; cases e; exact h2
    · rw [upd_ne q] at e; exact r.sub _ _ e
  · by_cases q : i = j
    · subst q
      rw [List.getElem?_set_self hi] at e
      cases e
      exact ⟨_, hs, rep⟩
    · rw [List.getElem?_set_ne q] at e
      obtain ⟨v, e1, e2⟩ := r.dat j x e
      exact ⟨v, e1, e2.mono k⟩
  · obtain ⟨q, e'⟩ := oth j c' (.inl e)
    rw [List.getElem?_set_ne q] at e
    obtain ⟨b, h5, ⟨h6, u, h7, h8⟩, h9⟩ := r.own j c' e
    exact ⟨b, h5, ⟨by rw [upd_ne (nea j c' b q e' h5)]; exact h6, u, h7, h8.mono k⟩, h9⟩
  · obtain ⟨q, e'⟩ := oth j c' (.inr e)
    rw [List.getElem?_set_ne q] at e
    obtain ⟨b, h5, ⟨h6, u, h7, h8⟩, h9⟩ := r.par j c' e
    exact ⟨b, h5, ⟨by rw [upd_ne (nea j c' b q e' h5)]; exact h6, u, h7, h8.mono k⟩, h9⟩
  · obtain ⟨c1, e1⟩ := h5
    obtain ⟨c2, e2⟩ := h6
    exact r.apt j l b ⟨c1, (oth j c1 e1).2⟩ ⟨c2, (oth l c2 e2).2⟩ h7 h8
  · obtain ⟨h5, h6, o, h7⟩ := r.hO b hb
    have q : b ≠ a := fun z => by rw [z, h4] at h7; cases h7
    exact ⟨by rw [upd_ne q]; exact h5, h6, o, h7⟩
  · by_cases q : b = a
    · subst q; exact .inr h4
    · rw [upd_ne q] at e; exact r.nw _ _ e
  · by_cases q : b = a
    · subst q; exact .inr (.inr oi)
    · rw [upd_ne q] at e; exact .inl ⟨o, e⟩
theorem dv (i : Nat) {x : Str} (hN : ∀ j, (Φ.X j).N[i]? = some x := by intro _; rfl) (hv : ∀ j, Vis (Φ.X j).env.scope x := by intro _; first | exact Or.inl rfl | exact Or.inr (Or.inl rfl) | exact Or.inr (Or.inr rfl)) (hd : (x == ("__debug__" : Str)) = false := by decide)
    (hcd : (x == ("__classdict__" : Str)) = false := by decide) : DF Φ W (.Name x pos) (wVar i) := by
  refine ⟨tVar i, fun j => pe_var (hN j) (hv j) hd hcd, fun B F H σ δ Q E Qh r h p _ => ?_⟩
  unfold wVar at h
  split at h
  · rename_i x e
    obtain ⟨v, e1, e2⟩ := r.dat i x e
    exact ⟨v, e1, p v F H x δ r .refl e2 h⟩
  · rename_i c e
    obtain ⟨a, F', hs, r', s', rep⟩ := r.frzSlot e
    exact ⟨_, hs, p _ F' H _ _ r' s' rep h⟩
  · exact h.elim
theorem ov (i : Nat) {x : Str} (hN : ∀ j, (Φ.X j).N[i]? = some x := by intro _; rfl) (hv : ∀ j, Vis (Φ.X j).env.scope x := by intro _; first | exact Or.inl rfl | exact Or.inr (Or.inl rfl) | exact Or.inr (Or.inr rfl)) (hd : (x == ("__debug__" : Str)) = false := by decide)
    (hcd : (x == ("__classdict__" : Str)) = false := by decide) : DO Φ W (.Name x pos) (oVar i) := by
  refine ⟨tVar i, fun j => pe_var (hN j) (hv j) hd hcd, fun B F H σ δ Q E Qh r h p _ => ?_⟩
  unfold oVar at h
  split at h
  · rename_i sd e
    have : ∃ v, σ[i]? = some (some v) := by
      cases sd with
      | d x => obtain ⟨v, e1, _⟩ := r.dat i x e; exact ⟨v, e1⟩
      | o c => obtain ⟨v, e1, _⟩ := r.own i c e; exact ⟨_, e1⟩
      | p c => obtain ⟨v, e1, _⟩ := r.par i c e; exact ⟨_, e1⟩
    obtain ⟨v, e1⟩ := this
    exact ⟨v, e1, p v F H (.v i) δ r .refl e1 h⟩
  · exact h.elim
def wC (d : D) : WF := fun δ Q _ => Q d δ
theorem df_c {e : Expr} {v : V} {d : D} (h : ∀ i, PE (Φ.X i) e (tC v)) (r : ∀ K F, Rep K F v d) : DF Φ W e (wC d) := ⟨_, h, fun B F H σ δ Q E Qh rb hw p _ => p v F H d δ rb .refl (r _ _) hw⟩
theorem d_int {i j pos} : DF Φ W (.Constant (.int i) j pos) (wC (.int i)) := df_c (fun _ => pe_int) fun _ _ => .int i
theorem d_bl {i j pos} : DF Φ W (.Constant (.bool i) j pos) (wC (.bl i)) := df_c (fun _ => pe_bl) fun _ _ => .bl i
theorem d_non {j pos} : DF Φ W (.Constant .none j pos) (wC .non) := df_c (fun _ => pe_non) fun _ _ => .non
theorem d_str {i j pos} : DF Φ W (.Constant (.str i) j pos) (wC (.str i)) := df_c (fun _ => pe_str) fun _ _ => .str i
theorem d_gstr {x z : Str} {t : Tok} (hg : ∀ i, Gl (Φ.X i) x) (hm : ∀ i, (Φ.X i).mg x = some (.str z t)) (hd : (x == ("__debug__" : Str)) = false := by decide) : DF Φ W (.Name x pos) (wC (.str z)) := df_c (fun i => pe_glob (v := V.str z) (hg i) (hm i) ⟨t, rfl⟩ hd) fun _ _ => .str z
abbrev S2 := D → D → (SD → Prop) → Prop
def BinD (Φ : Fam) (f : Value → Value → Sem Value) (s : S2) : Prop :=
  ∃ r, (∀ i, OpR (Φ.X i) f r) ∧ ∀ (B : Bs) (F H : Hp) (σ : St) (δ : Dl) (x y : D) (v u : V) (Q : SD → Dl → Prop) (Qh : VK), RB Φ.K B F H σ δ → PR Φ.K F H v x → PR Φ.K F H u y → s x y (fun sd => Q sd δ) → Post Φ.K B σ δ F H Q Qh → r v u H Qh
def wBin (s : S2) (wa wb : WO) : WE := fun δ Q E => wa δ (fun o δ1 => wb δ1 (fun o' δ2 => match view δ2 o, view δ2 o' with
  | some x, some y => s x y (fun sd => Q sd δ2)
  | _, _ => False) E) E
theorem bin_run {s : S2} {wa wb : WO} {r : R2} {ta tb : TE} (hr : ∀ (B : Bs) (F H : Hp) (σ : St) (δ : Dl) (x y : D) (v u : V) (Q : SD → Dl → Prop) (Qh : VK), RB Φ.K B F H σ δ → PR Φ.K F H v x → PR Φ.K F H u y → s x y (fun sd => Q sd δ) → Post Φ.K B σ δ F H Q Qh → r v u H Qh)
    (ha : ∀ (B : Bs) (F H : Hp) (σ : St) (δ : Dl) (Q : Op → Dl → Prop) (E : XQ) (Qh : VK), RB Φ.K B F H σ δ → wa δ Q E → PostO Φ.K B σ δ F H Q Qh → XL Φ.K B W σ E → ta σ H Qh)
    (hb : ∀ (B : Bs) (F H : Hp) (σ : St) (δ : Dl) (Q : Op → Dl → Prop) (E : XQ) (Qh : VK), RB Φ.K B F H σ δ → wb δ Q E → PostO Φ.K B σ δ F H Q Qh → XL Φ.K B W σ E → tb σ H Qh) :
    ∀ (B : Bs) (F H : Hp) (σ : St) (δ : Dl) (Q : SD → Dl → Prop) (E : XQ) (Qh : VK), RB Φ.K B F H σ δ → wBin s wa wb δ Q E → Post Φ.K B σ δ F H Q Qh → XL Φ.K B W σ E → tOp r ta tb σ H Qh := by
  intro B F H σ δ Q E Qh rb hw p xl
  refine ha B F H σ δ _ E _ rb hw (fun v F1 H1 o1 δ1 r1 s1 v1 q1 => ?_) xl
  refine hb B F1 H1 σ δ1 _ E _ r1 q1 (fun u F2 H2 o2 δ2 r2 s2 v2 q2 => ?_) xl
  split at q2
  · rename_i x y e1 e2
    exact hr B F2 H2 σ δ2 x y v u Q Qh r2 (r2.view (v1.step s2.f) e1) (r2.view v2 e2) q2 (p.after (s1.trans s2))
  · exact q2.elim
theorem de_bin {op : Operator} {s : S2} {wa wb : WO} (ho : BinD Φ (binaryOp op) s) (ha : DO Φ W a wa) (hb : DO Φ W b wb) : DE Φ W (.BinOp a op b pos) (wBin s wa wb) := by
  obtain ⟨r, o1, o2⟩ := ho
  obtain ⟨ta, a1, a2⟩ := ha
  obtain ⟨tb, b1, b2⟩ := hb
  exact ⟨_, fun i => pe_op (o1 i) (a1 i) (b1 i), bin_run o2 a2 b2⟩
theorem de_cmp {op : CmpOp} {s : S2} {wa wb : WO} (ho : BinD Φ (compareOp op) s) (ha : DO Φ W a wa) (hb : DO Φ W b wb) (hm : behindInMarks op b = false) : DE Φ W (.Compare a [op] [b] pos) (wBin s wa wb) := by
  obtain ⟨r, o1, o2⟩ := ho
  obtain ⟨ta, a1, a2⟩ := ha
  obtain ⟨tb, b1, b2⟩ := hb
  exact ⟨_, fun i => pe_cmpR (o1 i) (a1 i) (b1 i) hm, bin_run o2 a2 b2⟩
theorem de_ix {s : S2} {wa wb : WO} (ho : ∃ r, (∀ i, IxR (Φ.X i) r) ∧ ∀ (B : Bs) (F H : Hp) (σ : St) (δ : Dl) (x y : D) (v u : V) (Q : SD → Dl → Prop) (Qh : VK), RB Φ.K B F H σ δ → PR Φ.K F H v x → PR Φ.K F H u y → s x y (fun sd => Q sd δ) → Post Φ.K B σ δ F H Q Qh → r v u H Qh)
    (ha : DO Φ W a wa) (hb : DO Φ W b wb) (hs : PlainIx b) : DE Φ W (.Subscript a b pos) (wBin s wa wb) := by
  obtain ⟨r, o1, o2⟩ := ho
  obtain ⟨ta, a1, a2⟩ := ha
  obtain ⟨tb, b1, b2⟩ := hb
  exact ⟨_, fun i => pe_ix (o1 i) (a1 i) (b1 i) hs, bin_run o2 a2 b2⟩
theorem Post.dat {K : PySem.W.Frag} {B : Bs} {σ : St} {δ : Dl} {F H : Hp} {Q : SD → Dl → Prop} {Qh : VK} {v : V} {x : D} (p : Post K B σ δ F H Q Qh) (r : RB K B F H σ δ) (h : Rep K F v x) (q : Q (.d x) δ) : Qh v H := p v F H (.d x) δ r .refl h q
theorem Post.lst {K : PySem.W.Frag} {B : Bs} {σ : St} {δ : Dl} {F H : Hp} {Q : SD → Dl → Prop} {Qh : VK} {vs : List V} {xs : List D} (p : Post K B σ δ F H Q Qh) (r : RB K B F H σ δ) (h : RepL K F vs xs) (q : Q (.o (.l xs)) δ) :
    ∀ a, H a = none → Qh (.ref a) (upd H a (.lst vs)) := fun a ha => p _ F _ (.o (.l xs)) δ (r.lay ha) (.lay ha) ⟨a, rfl, ⟨r.fnone ha, _, upd_same, h⟩, r.now ha, r.hnone ha, ha⟩ q
theorem Post.tup {K : PySem.W.Frag} {B : Bs} {σ : St} {δ : Dl} {F H : Hp} {Q : SD → Dl → Prop} {Qh : VK} {vs : List V} {xs : List D} (p : Post K B σ δ F H Q Qh) (r : RB K B F H σ δ) (h : RepL K F vs xs) (q : Q (.d (.tup xs)) δ) :
    ∀ a, H a = none → Qh (.ref a) (upd H a (.tup vs)) := fun a ha => by
  have k : Same F (upd F a (.tup vs)) := fun b o e => by rw [upd_ne (ne_of_none e (r.fnone ha))]; exact e
  refine p _ (upd F a (.tup vs)) _ (.d (.tup xs)) δ ((r.lay ha).freeze upd_same (r.fnone ha) (r.now ha) (r.hnone ha)) ⟨k, (Stp.lay (F := F) ha).h, fun b o e => ?_, fun _ z => z, (Stp.lay (F := F) (σ := σ) (δ := δ) ha).k⟩ (.tup upd_same (h.mono k)) q
  by_cases hb : b = a
  · subst hb; exact .inr (.inl ha)
  · rw [upd_ne hb] at e; exact .inl ⟨o, e⟩
end
end DL
namespace DL
open PySem L2
mutual
def toP : D → Option PyData
  | .non => some .none
  | .bl b => some (.bool b)
  | .int i => some (.int i)
  | .str x => some (.str x)
  | .lst xs => match toPs xs with
    | some ps => some (.list ps)
    | none => none
  | .tup xs => match toPs xs with
    | some ps => some (.tuple ps)
    | none => none
  | _ => none
def toPs : List D → Option (List PyData)
  | [] => some []
  | x :: xs => match toP x, toPs xs with
    | some p, some ps => some (p :: ps)
    | _, _ => none
end
section
variable {K : PySem.W.Frag} {F H : Hp}
mutual
theorem toP_plain : ∀ {d : D} {p : PyData}, toP d = some p → p.plain = true
  | .non, _, h => by simp only [toP] at h; cases h; rfl
  | .bl b, _, h => by simp only [toP] at h; cases h; rfl
  | .int i, _, h => by simp only [toP] at h; cases h; rfl
  | .str x, _, h => by simp only [toP] at h; cases h; rfl
  | .lst xs, _, h => by
    simp only [toP] at h
    split at h
    · rename_i ps e
      cases h
      simp only [PyData.plain]
      exact toPs_plain e
    · cases h
  | .tup xs, _, h => by
    simp only [toP] at h
    split at h
    · rename_i ps e
      cases h
      simp only [PyData.plain]
      exact toPs_plain e
    · cases h
  | .dic _, _, h => by simp only [toP] at h; cases h
  | .dct _, _, h => by simp only [toP] at h; cases h
  | .obj _ _, _, h => by simp only [toP] at h; cases h
  | .scr _, _, h => by simp only [toP] at h; cases h
  | .vv _, _, h => by simp only [toP] at h; cases h
theorem toPs_plain : ∀ {ds : List D} {ps : List PyData}, toPs ds = some ps → PyData.plainAll ps = true
  | [], _, h => by simp only [toPs] at h; cases h; rfl
  | d :: ds, _, h => by
    simp only [toPs] at h
    split at h
    · rename_i p ps e1 e2
      cases h
      simp only [PyData.plainAll, toP_plain e1, toPs_plain e2, Bool.and_self]
    · cases h
end
mutual
theorem Rep.dp (s : Same F H) : ∀ {d : D} {v : V} {p : PyData}, Rep K F v d → toP d = some p → Dp K H v p
  | .non, _, _, r, h => by simp only [toP] at h; cases h; cases r; exact .non
  | .bl b, _, _, r, h => by simp only [toP] at h; cases h; cases r; exact .bl _
  | .int i, _, _, r, h => by simp only [toP] at h; cases h; cases r; exact .int _
  | .str x, _, _, r, h => by simp only [toP] at h; cases h; cases r; exact .str _
  | .lst xs, _, _, r, h => by
    simp only [toP] at h
    split at h
    · rename_i ps e
      cases h
      cases r with
      | lst h1 h2 => exact .lst (.inl (.inl (s _ _ h1))) (RepL.dp s h2 e)
    · cases h
  | .tup xs, _, _, r, h => by
    simp only [toP] at h
    split at h
    · rename_i ps e
      cases h
      cases r with
      | tup h1 h2 => exact .tup (.inl (.inl (s _ _ h1))) (RepL.dp s h2 e)
    · cases h
  | .dic _, _, _, _, h => by simp only [toP] at h; cases h
  | .dct _, _, _, _, h => by simp only [toP] at h; cases h
  | .obj _ _, _, _, _, h => by simp only [toP] at h; cases h
  | .scr _, _, _, _, h => by simp only [toP] at h; cases h
  | .vv _, _, _, _, h => by simp only [toP] at h; cases h
theorem RepL.dp (s : Same F H) : ∀ {ds : List D} {vs : List V} {ps : List PyData}, RepL K F vs ds → toPs ds = some ps → DpAll K H vs ps
  | [], _, _, r, h => by simp only [toPs] at h; cases h; cases r; exact .nil
  | d :: ds, _, _, r, h => by
    simp only [toPs] at h
    split at h
    · rename_i p ps e1 e2
      cases h
      cases r with
      | cons h1 h2 => exact .cons (Rep.dp s h1 e1) (RepL.dp s h2 e2)
    · cases h
end
theorem PR.dp (s : Same F H) {d : D} {v : V} {p : PyData} (r : PR K F H v d) (h : toP d = some p) : Dp K H v p := by
  rcases r with r | ⟨a, c, rfl, rfl, _, ho, h2, h3⟩
  · exact r.dp s h
  · cases c with
    | l xs =>
      obtain ⟨vs, rfl, h4⟩ := h3.lst
      simp only [Cn.fz, toP] at h
      split at h
      · rename_i ps e
        cases h
        exact .lst (.inl (.inl h2)) (h4.dp s e)
      · cases h
    | k xs => simp only [Cn.fz, toP] at h; cases h
    | t xs => simp only [Cn.fz, toP] at h; cases h
    | ob C xs => simp only [Cn.fz, toP] at h; cases h
end
def deq (x y : D) : Bool := match toP x, toP y with
  | some p, some q => PyData.eqv p q
  | _, _ => false
def eqOk (x : D) : Bool := match toP x with
  | some p => decide (p.depth ≤ 40)
  | none => false
theorem eqOk_some {x : D} (h : eqOk x = true) : ∃ p, toP x = some p ∧ p.depth ≤ 40 := by
  unfold eqOk at h
  split at h
  · rename_i p e
    exact ⟨p, e, of_decide_eq_true h⟩
  · cases h
section
variable {X : Cx} {Φ : Fam}
def rEqP (K : PySem.W.Frag) (neg : Bool) : R2 := fun x y H Q => ∃ d e, Dp K H x d ∧ Dp K H y e ∧ d.plain = true ∧ e.plain = true ∧ d.depth ≤ 40 ∧ Q (.bl (if neg then !PyData.eqv d e else PyData.eqv d e)) H
theorem op_eqP (hu : X.A.units + 64 < cLine) : OpR X (compareOp .Eq) (rEqP X.K false) := by
  intro pins s σ H x y v u Q I rx ry h
  obtain ⟨d, e, hd, he, sd, se, hdp, q⟩ := h
  obtain ⟨as, r1⟩ := Dp.reads I d x v hd rx
  obtain ⟨bs, r2⟩ := Dp.reads I e y u he ry
  exact PySem.SeqAt.eq_plain r1 r2 sd se (by have := Nat.min_le_left d.depth e.depth; omega) ⟨.bl _, H, I, rfl, q⟩
theorem op_neP (hu : X.A.units + 64 < cLine) : OpR X (compareOp .NotEq) (rEqP X.K true) := by
  intro pins s σ H x y v u Q I rx ry h
  obtain ⟨d, e, hd, he, sd, se, hdp, q⟩ := h
  obtain ⟨as, r1⟩ := Dp.reads I d x v hd rx
  obtain ⟨bs, r2⟩ := Dp.reads I e y u he ry
  exact PySem.SeqAt.ne_plain r1 r2 sd se (by have := Nat.min_le_left d.depth e.depth; omega) ⟨.bl _, H, I, rfl, q⟩
def sEq (neg : Bool) : S2 := fun x y Q => eqOk x = true ∧ eqOk y = true ∧ Q (.d (.bl (if neg then !deq x y else deq x y)))
theorem deq_of {x y : D} {p q : PyData} (h : toP x = some p) (h' : toP y = some q) : deq x y = PyData.eqv p q := by unfold deq; rw [h, h']
def rInP (K : PySem.W.Frag) (neg : Bool) : R2 := fun x y H Q => ∃ d ds, Dp K H x d ∧ (Dp K H y (.list ds) ∨ Dp K H y (.tuple ds)) ∧ d.plain = true ∧ PyData.plainAll ds = true ∧ d.depth ≤ 40 ∧ Q (.bl (if neg then !ds.any (fun z => PyData.eqv z d) else ds.any fun z => PyData.eqv z d)) H
theorem op_inP (hu : X.A.units + 64 < cLine) : OpR X (compareOp .In) (rInP X.K false) := by
  intro pins s σ H x y v u Q I rx ry h
  obtain ⟨d, ds, hd, he, sd, se, hdp, q⟩ := h
  obtain ⟨as, r1⟩ := Dp.reads I d x v hd rx
  have z := Nat.min_le_right (PyData.depthAll ds) d.depth
  rcases he with he | he
  · obtain ⟨bs, r2⟩ := Dp.reads I (.list ds) y u he ry
    exact PySem.SeqAt.in_list_data r2 r1 se sd (by omega) ⟨.bl _, H, I, rfl, q⟩
  · obtain ⟨bs, r2⟩ := Dp.reads I (.tuple ds) y u he ry
    exact PySem.SeqAt.in_tuple_data r2 r1 se sd (by omega) ⟨.bl _, H, I, rfl, q⟩
theorem op_notInP (hu : X.A.units + 64 < cLine) : OpR X (compareOp .NotIn) (rInP X.K true) := by
  intro pins s σ H x y v u Q I rx ry h
  obtain ⟨d, ds, hd, he, sd, se, hdp, q⟩ := h
  obtain ⟨as, r1⟩ := Dp.reads I d x v hd rx
  have z := Nat.min_le_right (PyData.depthAll ds) d.depth
  rcases he with he | he
  · obtain ⟨bs, r2⟩ := Dp.reads I (.list ds) y u he ry
    exact PySem.SeqAt.notIn_list_data r2 r1 se sd (by omega) ⟨.bl _, H, I, rfl, q⟩
  · obtain ⟨bs, r2⟩ := Dp.reads I (.tuple ds) y u he ry
    exact PySem.SeqAt.notIn_tuple_data r2 r1 se sd (by omega) ⟨.bl _, H, I, rfl, q⟩
def dmem (x : D) (ys : List D) : Bool := ys.any fun y => deq y x
theorem toPs_all : ∀ {ds : List D} {ps : List PyData} {x : D} {p : PyData}, toPs ds = some ps → toP x = some p → (ps.any fun z => PyData.eqv z p) = dmem x ds
  | [], _, _, _, h, _ => by simp only [toPs] at h; cases h; rfl
  | d :: ds, _, x, p, h, hx => by
    simp only [toPs] at h
    split at h
    · rename_i q ps e1 e2
      cases h
      unfold dmem
      rw [List.any_cons, List.any_cons, deq_of e1 hx, toPs_all e2 hx]
      rfl
    · cases h
def sIn (neg : Bool) : S2 := fun x y Q => match y with
  | .lst ys => eqOk x = true ∧ (toPs ys).isSome = true ∧ Q (.d (.bl (if neg then !dmem x ys else dmem x ys)))
  | .tup ys => eqOk x = true ∧ (toPs ys).isSome = true ∧ Q (.d (.bl (if neg then !dmem x ys else dmem x ys)))
  | .str z => match x with
    | .str i => Q (.d (.bl (if neg then !(!(Builtin.Str.occurrences z i 0 z.length 1).isEmpty) else !(Builtin.Str.occurrences z i 0 z.length 1).isEmpty)))
    | _ => False
  | _ => False
theorem bin_in (hu : ∀ i, (Φ.X i).A.units + 64 < cLine) : BinD Φ (compareOp .In) (sIn false) := by
  refine ⟨_, fun i => OpR.or (r := rInP Φ.K false) (by have h := op_inP (hu i); rw [Φ.hK i] at h; exact h) op_in_str, fun B F H σ δ x y v u Q Qh r hx hy hs p => ?_⟩
  unfold sIn at hs
  split at hs
  · rename_i ys
    obtain ⟨h1, h2, h3⟩ := hs
    obtain ⟨px, e1, d1⟩ := eqOk_some h1
    obtain ⟨ps, e2⟩ := Option.isSome_iff_exists.mp h2
    rw [← toPs_all e2 e1] at h3
    exact .inl ⟨px, ps, hx.dp r.sub e1, .inl (hy.dp r.sub (by simp only [toP, e2])), toP_plain e1, toPs_plain e2, d1, p.dat r (.bl _) h3⟩
  · rename_i ys
    obtain ⟨h1, h2, h3⟩ := hs
    obtain ⟨px, e1, d1⟩ := eqOk_some h1
    obtain ⟨ps, e2⟩ := Option.isSome_iff_exists.mp h2
    rw [← toPs_all e2 e1] at h3
    exact .inl ⟨px, ps, hx.dp r.sub e1, .inr (hy.dp r.sub (by simp only [toP, e2])), toP_plain e1, toPs_plain e2, d1, p.dat r (.bl _) h3⟩
  · split at hs
    · obtain rfl := hx.str
      obtain rfl := hy.str
      exact .inr ⟨_, _, rfl, rfl, p.dat r (.bl _) hs⟩
    · exact hs.elim
  · exact hs.elim
theorem bin_notin (hu : ∀ i, (Φ.X i).A.units + 64 < cLine) : BinD Φ (compareOp .NotIn) (sIn true) := by
  refine ⟨_, fun i => OpR.or (r := rInP Φ.K true) (by have h := op_notInP (hu i); rw [Φ.hK i] at h; exact h) op_notin_str, fun B F H σ δ x y v u Q Qh r hx hy hs p => ?_⟩
  unfold sIn at hs
  split at hs
  · rename_i ys
    obtain ⟨h1, h2, h3⟩ := hs
    obtain ⟨px, e1, d1⟩ := eqOk_some h1
    obtain ⟨ps, e2⟩ := Option.isSome_iff_exists.mp h2
    rw [← toPs_all e2 e1] at h3
    exact .inl ⟨px, ps, hx.dp r.sub e1, .inl (hy.dp r.sub (by simp only [toP, e2])), toP_plain e1, toPs_plain e2, d1, p.dat r (.bl _) h3⟩
  · rename_i ys
    obtain ⟨h1, h2, h3⟩ := hs
    obtain ⟨px, e1, d1⟩ := eqOk_some h1
    obtain ⟨ps, e2⟩ := Option.isSome_iff_exists.mp h2
    rw [← toPs_all e2 e1] at h3
    exact .inl ⟨px, ps, hx.dp r.sub e1, .inr (hy.dp r.sub (by simp only [toP, e2])), toP_plain e1, toPs_plain e2, d1, p.dat r (.bl _) h3⟩
  · split at hs
    · obtain rfl := hx.str
      obtain rfl := hy.str
      exact .inr ⟨_, _, rfl, rfl, p.dat r (.bl _) hs⟩
    · exact hs.elim
  · exact hs.elim
def sAdd : S2 := fun x y Q => match x, y with
  | .int i, .int j => Q (.d (.int (i + j)))
  | .str i, .str j => i.length + j.length ≤ sizeLine ∧ Q (.d (.str (i ++ j)))
  | .lst xs, .lst ys => xs.length + ys.length ≤ sizeLine ∧ Q (.o (.l (xs ++ ys)))
  | _, _ => False
theorem bin_add : BinD Φ (binaryOp .Add) sAdd := by
  refine ⟨_, fun i => op_add.or (op_add_str.or op_cat), fun B F H σ δ x y v u Q Qh r hx hy hs p => ?_⟩
  unfold sAdd at hs
  split at hs
  · obtain rfl := hx.int; obtain rfl := hy.int
    exact .inl ⟨_, _, rfl, rfl, p.dat r (.int _) hs⟩
  · obtain rfl := hx.str; obtain rfl := hy.str
    exact .inr (.inl ⟨_, _, rfl, rfl, hs.1, p.dat r (.str _) hs.2⟩)
  · obtain ⟨a, vs, rfl, h1, h2⟩ := hx.lst r.sub
    obtain ⟨b, us, rfl, h3, h4⟩ := hy.lst r.sub
    exact .inr (.inr ⟨_, _, _, _, rfl, rfl, h1, h3, by rw [h2.len, h4.len]; exact hs.1, p.lst r (h2.app h4) hs.2⟩)
  · exact hs.elim
def sInt (C : Int → Int → Prop) (g : Int → Int → D) : S2 := fun x y Q => match x, y with
  | .int i, .int j => C i j ∧ Q (.d (g i j))
  | _, _ => False
theorem bin_int {f : Value → Value → Sem Value} {C : Int → Int → Prop} {g : Int → Int → Int} (h : ∀ i, OpR (Φ.X i) f (rI C fun i j => .int (g i j))) : BinD Φ f (sInt C fun i j => .int (g i j)) := by
  refine ⟨_, h, fun B F H σ δ x y v u Q Qh r hx hy hs p => ?_⟩
  unfold sInt at hs
  split at hs
  · obtain rfl := hx.int; obtain rfl := hy.int
    exact ⟨_, _, rfl, rfl, hs.1, p.dat r (.int _) hs.2⟩
  · exact hs.elim
def sInt0 (g : Int → Int → D) : S2 := fun x y Q => match x, y with
  | .int i, .int j => Q (.d (g i j))
  | _, _ => False
theorem bin_int0 {f : Value → Value → Sem Value} {g : Int → Int → Int} (h : ∀ i, OpR (Φ.X i) f (rI0 fun i j => .int (g i j))) : BinD Φ f (sInt0 fun i j => .int (g i j)) := by
  refine ⟨_, h, fun B F H σ δ x y v u Q Qh r hx hy hs p => ?_⟩
  unfold sInt0 at hs
  split at hs
  · obtain rfl := hx.int; obtain rfl := hy.int
    exact ⟨_, _, rfl, rfl, p.dat r (.int _) hs⟩
  · exact hs.elim
theorem bin_cmp0 {f : Value → Value → Sem Value} {g : Int → Int → Bool} (h : ∀ i, OpR (Φ.X i) f (rI0 fun i j => .bl (g i j))) : BinD Φ f (sInt0 fun i j => .bl (g i j)) := by
  refine ⟨_, h, fun B F H σ δ x y v u Q Qh r hx hy hs p => ?_⟩
  unfold sInt0 at hs
  split at hs
  · obtain rfl := hx.int; obtain rfl := hy.int
    exact ⟨_, _, rfl, rfl, p.dat r (.bl _) hs⟩
  · exact hs.elim
abbrev sSub : S2 := sInt0 fun i j => .int (i - j)
abbrev sMul : S2 := sInt CMulW fun i j => .int (i * j)
abbrev sMod : S2 := sInt (fun _ j => 0 < j) fun i j => .int (i % j)
abbrev sDiv : S2 := sInt CDivW fun i j => .int (i / j)
abbrev sPow : S2 := sInt CPow fun i j => .int (i ^ j.toNat)
abbrev sLt : S2 := sInt0 fun i j => .bl (decide (i < j))
abbrev sLe : S2 := sInt0 fun i j => .bl (decide (i ≤ j))
abbrev sGt : S2 := sInt0 fun i j => .bl (decide (j < i))
abbrev sGe : S2 := sInt0 fun i j => .bl (decide (j ≤ i))
theorem bin_sub : BinD Φ (binaryOp .Sub) sSub := bin_int0 fun _ => op_sub
theorem bin_mul : BinD Φ (binaryOp .Mult) sMul := bin_int fun _ => op_mulW
theorem bin_mod : BinD Φ (binaryOp .Mod) sMod := bin_int fun _ => op_mod
theorem bin_div : BinD Φ (binaryOp .FloorDiv) sDiv := bin_int fun _ => op_fdivW
theorem bin_pow : BinD Φ (binaryOp .Pow) sPow := bin_int fun _ => op_pow
theorem bin_lt : BinD Φ (compareOp .Lt) sLt := bin_cmp0 fun _ => op_lt
theorem bin_le : BinD Φ (compareOp .LtE) sLe := bin_cmp0 fun _ => op_le
theorem bin_gt : BinD Φ (compareOp .Gt) sGt := bin_cmp0 fun _ => op_gt
theorem bin_ge : BinD Φ (compareOp .GtE) sGe := bin_cmp0 fun _ => op_ge
end
end DL
namespace DL
open PySem L2
abbrev WT := Dl → (Bool → Dl → Prop) → XQ → Prop
def PostT (K : PySem.W.Frag) (B : Bs) (σ : St) (δ : Dl) (F H : Hp) (Q : Bool → Dl → Prop) (Qh : Bool → Hp → Prop) : Prop :=
  ∀ b F' H' δ', RB K B F' H' σ δ' → Stp σ δ δ' F H F' H' → Q b δ' → Qh b H'
def DT (Φ : Fam) (W : WX) (e : Expr) (w : WT) : Prop :=
  ∃ t, (∀ i, PT (Φ.X i) e t) ∧ ∀ (B : Bs) (F H : Hp) (σ : St) (δ : Dl) (Q : Bool → Dl → Prop) (E : XQ) (Qh : Bool → Hp → Prop), RB Φ.K B F H σ δ → w δ Q E → PostT Φ.K B σ δ F H Q Qh → XL Φ.K B W σ E → t σ H Qh
def DW (Φ : Fam) (W : WX) (e : Expr) (w : WT) : Prop :=
  ∃ t, (∀ i, PW (Φ.X i) e t) ∧ ∀ (B : Bs) (F H : Hp) (σ : St) (δ : Dl) (Q : Bool → Dl → Prop) (E : XQ) (Qh : Bool → Hp → Prop), RB Φ.K B F H σ δ → w δ Q E → PostT Φ.K B σ δ F H Q Qh → XL Φ.K B W σ E → t σ H Qh
theorem PostT.after {K : PySem.W.Frag} {B : Bs} {σ : St} {δ δ1 : Dl} {F H F1 H1 : Hp} {Q : Bool → Dl → Prop} {Qh : Bool → Hp → Prop} (p : PostT K B σ δ F H Q Qh) (s : Stp σ δ δ1 F H F1 H1) : PostT K B σ δ1 F1 H1 Q Qh :=
  fun b F' H' δ' r s' q => p b F' H' δ' r (s.trans s') q
def asB (Q : Bool → Dl → Prop) : SD → Dl → Prop := fun sd δ => match sd with
  | .d (.bl k) => Q k δ
  | _ => False
theorem asB_ok {K : PySem.W.Frag} {B : Bs} {H0 F H : Hp} {σ : St} {δ : Dl} {v : V} {Q : Bool → Dl → Prop} : ∀ {sd : SD}, SR K B H0 F H σ δ v sd → asB Q sd δ → ∃ k, v = .bl k ∧ Q k δ
  | .d (.bl k), r, q => by cases r; exact ⟨k, rfl, q⟩
def wB (w : WE) : WT := fun δ Q E => w δ (asB Q) E
section
variable {Φ : Fam} {W : WX} {a b c e : Expr} {rest : List Expr} {pos : Pos}
theorem dt_val {w : WE} (h : DE Φ W e w) (he : ∀ i whole, isTrue e (Φ.X i).env whole = (do let v ← whole; standAt e.pos; holding [v] (truthy v)) := by intro _ _; rfl) : DT Φ W e (wB w) := by
  obtain ⟨t, h1, h2⟩ := h
  exact ⟨_, fun i => pt_val (h1 i) (he i), fun B F H σ δ Q E Qh r hw p x => h2 B F H σ δ _ E _ r hw (fun v F' H' sd δ' r' s' sr q => let ⟨k, e1, e2⟩ := asB_ok sr q; ⟨k, e1, p k F' H' δ' r' s' e2⟩) x⟩
theorem dt_cmp {op : CmpOp} {s : S2} {wa wb : WO} (ho : BinD Φ (compareOp op) s) (ha : DO Φ W a wa) (hb : DO Φ W b wb) (hm : behindInMarks op b = false) : DT Φ W (.Compare a [op] [b] pos) (wB (wBin s wa wb)) := by
  obtain ⟨r, o1, o2⟩ := ho
  obtain ⟨ta, a1, a2⟩ := ha
  obtain ⟨tb, b1, b2⟩ := hb
  exact ⟨_, fun i => pt_cmpR (o1 i) (a1 i) (b1 i) hm, fun B F H σ δ Q E Qh r hw p x => bin_run o2 a2 b2 B F H σ δ _ E _ r hw (fun v F' H' sd δ' r' s' sr q => let ⟨k, e1, e2⟩ := asB_ok sr q; ⟨k, e1, p k F' H' δ' r' s' e2⟩) x⟩
def wChain (s s' : S2) (wa wb wc : WO) : WE := fun δ Q E => wa δ (fun o δ1 => wb δ1 (fun o' δ2 => match view δ2 o, view δ2 o' with
  | some x, some y => s x y (fun sd => asB (fun k δ3 => if k = true then wc δ3 (fun o'' δ4 => match view δ4 o', view δ4 o'' with
      | some y', some z => s' y' z (fun sd' => Q sd' δ4)
      | _, _ => False) E else Q (.d (.bl false)) δ3) sd δ2)
  | _, _ => False) E) E
theorem chain_run {s s' : S2} {wa wb wc : WO} {r r' : R2} {ta tb tc : TE} (hr : ∀ (B : Bs) (F H : Hp) (σ : St) (δ : Dl) (x y : D) (v u : V) (Q : SD → Dl → Prop) (Qh : VK), RB Φ.K B F H σ δ → PR Φ.K F H v x → PR Φ.K F H u y → s x y (fun sd => Q sd δ) → Post Φ.K B σ δ F H Q Qh → r v u H Qh)
    (hr' : ∀ (B : Bs) (F H : Hp) (σ : St) (δ : Dl) (x y : D) (v u : V) (Q : SD → Dl → Prop) (Qh : VK), RB Φ.K B F H σ δ → PR Φ.K F H v x → PR Φ.K F H u y → s' x y (fun sd => Q sd δ) → Post Φ.K B σ δ F H Q Qh → r' v u H Qh)
    (ha : ∀ (B : Bs) (F H : Hp) (σ : St) (δ : Dl) (Q : Op → Dl → Prop) (E : XQ) (Qh : VK), RB Φ.K B F H σ δ → wa δ Q E → PostO Φ.K B σ δ F H Q Qh → XL Φ.K B W σ E → ta σ H Qh)
    (hb : ∀ (B : Bs) (F H : Hp) (σ : St) (δ : Dl) (Q : Op → Dl → Prop) (E : XQ) (Qh : VK), RB Φ.K B F H σ δ → wb δ Q E → PostO Φ.K B σ δ F H Q Qh → XL Φ.K B W σ E → tb σ H Qh)
    (hc : ∀ (B : Bs) (F H : Hp) (σ : St) (δ : Dl) (Q : Op → Dl → Prop) (E : XQ) (Qh : VK), RB Φ.K B F H σ δ → wc δ Q E → PostO Φ.K B σ δ F H Q Qh → XL Φ.K B W σ E → tc σ H Qh) :
    ∀ (B : Bs) (F H : Hp) (σ : St) (δ : Dl) (Q : SD → Dl → Prop) (E : XQ) (Qh : VK), RB Φ.K B F H σ δ → wChain s s' wa wb wc δ Q E → Post Φ.K B σ δ F H Q Qh → XL Φ.K B W σ E → tChain r r' ta tb tc σ H Qh := by
  intro B F H σ δ Q E Qh rb hw p xl
  refine ha B F H σ δ _ E _ rb hw (fun v F1 H1 o1 δ1 r1 s1 v1 q1 => ?_) xl
  refine hb B F1 H1 σ δ1 _ E _ r1 q1 (fun u F2 H2 o2 δ2 r2 s2 v2 q2 => ?_) xl
  split at q2
  · rename_i x y e1 e2
    refine hr B F2 H2 σ δ2 x y v u _ _ r2 (r2.view (v1.step s2.f) e1) (r2.view v2 e2) q2 fun w F3 H3 sd δ3 r3 s3 sr q3 => ?_
    obtain ⟨k, ek, q4⟩ := asB_ok sr q3
    refine ⟨k, ek, ?_⟩
    have p3 := p.after ((s1.trans s2).trans s3)
    cases k with
    | false =>
      rw [if_neg Bool.false_ne_true] at q4 ⊢
      exact p3.dat r3 (.bl _) q4
    | true =>
      rw [if_pos rfl] at q4 ⊢
      refine hc B F3 H3 σ δ3 _ E _ r3 q4 (fun u' F4 H4 o3 δ4 r4 s4 v4 q5 => ?_) xl
      split at q5
      · rename_i y' z e3 e4
        exact hr' B F4 H4 σ δ4 y' z u u' Q Qh r4 (r4.view (v2.step (s3.f.trans s4.f)) e3) (r4.view v4 e4) q5 (p3.after s4)
      · exact q5.elim
  · exact q2.elim
theorem dt_chain {op op' : CmpOp} {s s' : S2} {wa wb wc : WO} (ho : BinD Φ (compareOp op) s) (ho' : BinD Φ (compareOp op') s') (ha : DO Φ W a wa) (hb : DO Φ W b wb) (hc : DO Φ W c wc)
    (hm : lastMarks [op, op'] [b, c] = false := by with_unfolding_all rfl) : DT Φ W (.Compare a [op, op'] [b, c] pos) (wB (wChain s s' wa wb wc)) := by
  obtain ⟨r, o1, o2⟩ := ho
  obtain ⟨r', o1', o2'⟩ := ho'
  obtain ⟨ta, a1, a2⟩ := ha
  obtain ⟨tb, b1, b2⟩ := hb
  obtain ⟨tc, c1, c2⟩ := hc
  exact ⟨_, fun i => pt_chain (o1 i) (o1' i) (a1 i) (b1 i) (c1 i) hm, fun B F H σ δ Q E Qh r hw p x => chain_run o2 o2' a2 b2 c2 B F H σ δ _ E _ r hw (fun v F' H' sd δ' r' s' sr q => let ⟨k, e1, e2⟩ := asB_ok sr q; ⟨k, e1, p k F' H' δ' r' s' e2⟩) x⟩
def wNot (w : WT) : WT := fun δ Q E => w δ (fun b δ' => Q (!b) δ') E
def wAnd (w u : WT) : WT := fun δ Q E => w δ (fun b δ' => if b = true then u δ' Q E else Q false δ') E
def wOr (w u : WT) : WT := fun δ Q E => w δ (fun b δ' => if b = true then Q true δ' else u δ' Q E) E
theorem dt_not {w : WT} (h : DT Φ W a w) : DT Φ W (.UnaryOp .Not a pos) (wNot w) := by
  obtain ⟨t, h1, h2⟩ := h
  exact ⟨_, fun i => pt_not (h1 i), fun B F H σ δ Q E Qh r hw p x => h2 B F H σ δ _ E _ r hw (fun b F' H' δ' r' s' q => p _ F' H' δ' r' s' q) x⟩
theorem dw_and1 {w : WT} (h : DT Φ W a w) : DW Φ W (.BoolOp .And [a] pos) w := by
  obtain ⟨t, h1, h2⟩ := h
  exact ⟨_, fun i => pw_and1 (h1 i), h2⟩
theorem dw_or1 {w : WT} (h : DT Φ W a w) : DW Φ W (.BoolOp .Or [a] pos) w := by
  obtain ⟨t, h1, h2⟩ := h
  exact ⟨_, fun i => pw_or1 (h1 i), h2⟩
theorem dw_and {w u : WT} (h : DT Φ W a w) (h' : DW Φ W (.BoolOp .And (b :: rest) pos) u) : DW Φ W (.BoolOp .And (a :: b :: rest) pos) (wAnd w u) := by
  obtain ⟨t, h1, h2⟩ := h
  obtain ⟨t', h1', h2'⟩ := h'
  refine ⟨_, fun i => pw_and (h1 i) (h1' i), fun B F H σ δ Q E Qh r hw p x => h2 B F H σ δ _ E _ r hw (fun k F' H' δ' r' s' q => ?_) x⟩
  cases k with
  | true => rw [if_pos rfl] at q ⊢; exact h2' B F' H' σ δ' Q E Qh r' q (p.after s') x
  | false => rw [if_neg Bool.false_ne_true] at q ⊢; exact p _ F' H' δ' r' s' q
theorem dw_or {w u : WT} (h : DT Φ W a w) (h' : DW Φ W (.BoolOp .Or (b :: rest) pos) u) : DW Φ W (.BoolOp .Or (a :: b :: rest) pos) (wOr w u) := by
  obtain ⟨t, h1, h2⟩ := h
  obtain ⟨t', h1', h2'⟩ := h'
  refine ⟨_, fun i => pw_or (h1 i) (h1' i), fun B F H σ δ Q E Qh r hw p x => h2 B F H σ δ _ E _ r hw (fun k F' H' δ' r' s' q => ?_) x⟩
  cases k with
  | false => rw [if_neg Bool.false_ne_true] at q ⊢; exact h2' B F' H' σ δ' Q E Qh r' q (p.after s') x
  | true => rw [if_pos rfl] at q ⊢; exact p _ F' H' δ' r' s' q
theorem DW.t {w : WT} (h : DW Φ W e w) : DT Φ W e w := by
  obtain ⟨t, h1, h2⟩ := h
  exact ⟨_, fun i => (h1 i).pt, h2⟩
def vNot (w : WE) : WE := fun δ Q E => w δ (asB fun b δ' => Q (.d (.bl (!b))) δ') E
def vAnd (w u : WE) : WE := fun δ Q E => w δ (asB fun b δ' => if b = true then u δ' Q E else Q (.d (.bl false)) δ') E
def vOr (w u : WE) : WE := fun δ Q E => w δ (asB fun b δ' => if b = true then Q (.d (.bl true)) δ' else u δ' Q E) E
theorem de_not {w : WE} (h : DE Φ W a w) : DE Φ W (.UnaryOp .Not a pos) (vNot w) := by
  obtain ⟨t, h1, h2⟩ := h
  exact ⟨_, fun i => pe_not (h1 i), fun B F H σ δ Q E Qh r hw p x => h2 B F H σ δ _ E _ r hw (fun v F' H' sd δ' r' s' sr q => let ⟨k, e1, e2⟩ := asB_ok sr q; ⟨k, e1, (p.after s').dat r' (.bl _) e2⟩) x⟩
theorem de_one {op} {w : WE} (h : DE Φ W a w) : DE Φ W (.BoolOp op [a] pos) w := by
  obtain ⟨t, h1, h2⟩ := h
  exact ⟨_, fun i => pe_one (h1 i), h2⟩
theorem de_and {w u : WE} (h : DE Φ W a w) (h' : DE Φ W (.BoolOp .And (b :: rest) pos) u) : DE Φ W (.BoolOp .And (a :: b :: rest) pos) (vAnd w u) := by
  obtain ⟨t, h1, h2⟩ := h
  obtain ⟨t', h1', h2'⟩ := h'
  refine ⟨_, fun i => pe_and (h1 i) (h1' i), fun B F H σ δ Q E Qh r hw p x => h2 B F H σ δ _ E _ r hw (fun v F' H' sd δ' r' s' sr q => ?_) x⟩
  obtain ⟨k, e1, q⟩ := asB_ok sr q
  refine ⟨k, e1, ?_⟩
  cases k with
  | true => rw [if_pos rfl] at q ⊢; exact h2' B F' H' σ δ' Q E Qh r' q (p.after s') x
  | false => rw [if_neg Bool.false_ne_true] at q ⊢; exact (p.after s').dat r' (.bl _) q
theorem de_or {w u : WE} (h : DE Φ W a w) (h' : DE Φ W (.BoolOp .Or (b :: rest) pos) u) : DE Φ W (.BoolOp .Or (a :: b :: rest) pos) (vOr w u) := by
  obtain ⟨t, h1, h2⟩ := h
  obtain ⟨t', h1', h2'⟩ := h'
  refine ⟨_, fun i => pe_or (h1 i) (h1' i), fun B F H σ δ Q E Qh r hw p x => h2 B F H σ δ _ E _ r hw (fun v F' H' sd δ' r' s' sr q => ?_) x⟩
  obtain ⟨k, e1, q⟩ := asB_ok sr q
  refine ⟨k, e1, ?_⟩
  cases k with
  | false => rw [if_neg Bool.false_ne_true] at q ⊢; exact h2' B F' H' σ δ' Q E Qh r' q (p.after s') x
  | true => rw [if_pos rfl] at q ⊢; exact (p.after s').dat r' (.bl _) q
def wIfE (c : WT) (w u : WE) : WE := fun δ Q E => c δ (fun b δ' => if b = true then w δ' Q E else u δ' Q E) E
theorem de_if {wc : WT} {w u : WE} (hc : DT Φ W c wc) (h : DE Φ W a w) (h' : DE Φ W b u) : DE Φ W (.IfExp c a b pos) (wIfE wc w u) := by
  obtain ⟨tc, c1, c2⟩ := hc
  obtain ⟨t, h1, h2⟩ := h
  obtain ⟨t', h1', h2'⟩ := h'
  refine ⟨_, fun i => pe_ifExp (c1 i) (h1 i) (h1' i), fun B F H σ δ Q E Qh r hw p x => c2 B F H σ δ _ E _ r hw (fun k F' H' δ' r' s' q => ?_) x⟩
  cases k with
  | false => rw [if_neg Bool.false_ne_true] at q ⊢; exact h2' B F' H' σ δ' Q E Qh r' q (p.after s') x
  | true => rw [if_pos rfl] at q ⊢; exact h2 B F' H' σ δ' Q E Qh r' q (p.after s') x
theorem DF.neg {w : WF} (h : DF Φ W a w) : DF Φ W (.UnaryOp .USub a pos) (fun δ Q E => w δ (fun x δ' => match x with | .int i => Q (.int (-i)) δ' | _ => False) E) := by
  obtain ⟨t, h1, h2⟩ := h
  refine ⟨_, fun i => pe_un un_neg (h1 i), fun B F H σ δ Q E Qh r hw p x => h2 B F H σ δ _ E _ r hw (fun v F' H' d δ' r' s' rep q => ?_) x⟩
  cases d with
  | int i => cases rep; exact ⟨i, rfl, p _ F' H' _ δ' r' s' (.int _) q⟩
  | _ => exact q.elim
abbrev WL := Dl → (List D → Dl → Prop) → XQ → Prop
def DA (Φ : Fam) (W : WX) (es : List Expr) (w : WL) : Prop :=
  ∃ t, (∀ i, PA (Φ.X i) es t) ∧ ∀ (B : Bs) (F H : Hp) (σ : St) (δ : Dl) (Q : List D → Dl → Prop) (E : XQ) (Qh : List V → Hp → Prop), RB Φ.K B F H σ δ → w δ Q E →
    (∀ vs F' H' xs δ', RB Φ.K B F' H' σ δ' → Stp σ δ δ' F H F' H' → RepL Φ.K F' vs xs → Q xs δ' → Qh vs H') → XL Φ.K B W σ E → t σ H Qh
def wNil : WL := fun δ Q _ => Q [] δ
def wCons (w : WF) (u : WL) : WL := fun δ Q E => w δ (fun x δ' => u δ' (fun xs δ2 => Q (x :: xs) δ2) E) E
theorem da_nil : DA Φ W [] wNil := ⟨_, fun _ => pa_nil, fun B F H σ δ Q E Qh r hw p _ => p [] F H [] δ r .refl .nil hw⟩
theorem da_cons {es : List Expr} {w : WF} {u : WL} (h : DF Φ W e w) (h' : DA Φ W es u) (hs : ∀ i, starEach (e :: es) (Φ.X i).env = (false, eval e (Φ.X i).env) :: starEach es (Φ.X i).env := by intro _; rfl) : DA Φ W (e :: es) (wCons w u) := by
  obtain ⟨t, h1, h2⟩ := h
  obtain ⟨t', h1', h2'⟩ := h'
  exact ⟨_, fun i => pa_cons (h1 i) (h1' i) (hs i), fun B F H σ δ Q E Qh r hw p x => h2 B F H σ δ _ E _ r hw (fun v F1 H1 d δ1 r1 s1 rep q => h2' B F1 H1 σ δ1 _ E _ r1 q (fun vs F2 H2 xs δ2 r2 s2 reps q2 => p _ F2 H2 _ δ2 r2 (s1.trans s2) (.cons (rep.mono s2.f) reps) q2) x) x⟩
def wLst (w : WL) : WE := fun δ Q E => w δ (fun xs δ' => xs.length ≤ sizeLine ∧ Q (.o (.l xs)) δ') E
def wTup (w : WL) : WE := fun δ Q E => w δ (fun xs δ' => xs.length ≤ sizeLine ∧ Q (.d (.tup xs)) δ') E
theorem de_lst {es : List Expr} {w : WL} (h : DA Φ W es w) : DE Φ W (.List es pos) (wLst w) := by
  obtain ⟨t, h1, h2⟩ := h
  exact ⟨_, fun i => pe_lst (h1 i), fun B F H σ δ Q E Qh r hw p x => h2 B F H σ δ _ E _ r hw (fun vs F' H' xs δ' r' s' reps q => ⟨by rw [reps.len]; exact q.1, (p.after s').lst r' reps q.2⟩) x⟩
theorem de_tup {es : List Expr} {x1} {w : WL} (h : DA Φ W es w) : DE Φ W (.Tuple es x1 pos) (wTup w) := by
  obtain ⟨t, h1, h2⟩ := h
  exact ⟨_, fun i => pe_tup (h1 i), fun B F H σ δ Q E Qh r hw p x => h2 B F H σ δ _ E _ r hw (fun vs F' H' xs δ' r' s' reps q => ⟨by rw [reps.len]; exact q.1, (p.after s').tup r' reps q.2⟩) x⟩
abbrev S1 := D → (SD → Prop) → Prop
def CallD (Φ : Fam) (f : Value) (s : S1) : Prop :=
  ∃ r, (∀ i, CallR (Φ.X i) f r) ∧ ∀ (B : Bs) (F H : Hp) (σ : St) (δ : Dl) (x : D) (v : V) (Q : SD → Dl → Prop) (Qh : VK), RB Φ.K B F H σ δ → PR Φ.K F H v x → s x (fun sd => Q sd δ) → Post Φ.K B σ δ F H Q Qh → r [v] H Qh
def wCall (s : S1) (w : WO) : WE := fun δ Q E => w δ (fun o δ1 => match view δ1 o with
  | some x => s x (fun sd => Q sd δ1)
  | none => False) E
theorem call_run {s : S1} {w : WO} {r : List V → Hp → VK → Prop} {t : TE} (hr : ∀ (B : Bs) (F H : Hp) (σ : St) (δ : Dl) (x : D) (v : V) (Q : SD → Dl → Prop) (Qh : VK), RB Φ.K B F H σ δ → PR Φ.K F H v x → s x (fun sd => Q sd δ) → Post Φ.K B σ δ F H Q Qh → r [v] H Qh)
    (h : ∀ (B : Bs) (F H : Hp) (σ : St) (δ : Dl) (Q : Op → Dl → Prop) (E : XQ) (Qh : VK), RB Φ.K B F H σ δ → w δ Q E → PostO Φ.K B σ δ F H Q Qh → XL Φ.K B W σ E → t σ H Qh) :
    ∀ (B : Bs) (F H : Hp) (σ : St) (δ : Dl) (Q : SD → Dl → Prop) (E : XQ) (Qh : VK), RB Φ.K B F H σ δ → wCall s w δ Q E → Post Φ.K B σ δ F H Q Qh → XL Φ.K B W σ E → tCB r (tCons t tNil) σ H Qh := by
  intro B F H σ δ Q E Qh rb hw p xl
  refine h B F H σ δ _ E _ rb hw (fun v F1 H1 o δ1 r1 s1 v1 q => ?_) xl
  split at q
  · rename_i x e
    exact hr B F1 H1 σ δ1 x v Q Qh r1 (r1.view v1 e) q (p.after s1)
  · exact q.elim
theorem de_callB {id : String} {x : Str} {p : Pos} {s : S1} {w : WO} (hc : CallD Φ (.builtin id) s) (hg : ∀ i, Gl (Φ.X i) x) (hm : ∀ i, (Φ.X i).mg x = none) (hv : bootBuiltins x = some (.builtin id)) (ha : DO Φ W e w) (hn : x ≠ "__name__" := by decide) (hdb : (x == ("__debug__" : Str)) = false := by decide)
    (he : ∀ i, starEach [e] (Φ.X i).env = (false, eval e (Φ.X i).env) :: starEach [] (Φ.X i).env := by intro _; rfl) (hpl : ∀ i, (backTo pos (starEach [] (Φ.X i).env)).any (·.1) = false := by intro _; rfl) : DE Φ W (.Call (.Name x p) [e] [] pos) (wCall s w) := by
  obtain ⟨r, c1, c2⟩ := hc
  obtain ⟨t, h1, h2⟩ := ha
  exact ⟨_, fun i => pe_callB (c1 i) (hg i) (hm i) hv (pa_cons (h1 i) pa_nil (he i)) hn hdb (he i) (hpl i), call_run c2 h2⟩
theorem de_callTy {T : String} {x : Str} {p : Pos} {s : S1} {w : WO} (hc : CallD Φ (.type T) s) (hg : ∀ i, Gl (Φ.X i) x) (hm : ∀ i, (Φ.X i).mg x = none) (hv : bootBuiltins x = some (.type T)) (ha : DO Φ W e w) (hn : x ≠ "__name__" := by decide) (hdb : (x == ("__debug__" : Str)) = false := by decide)
    (he : ∀ i, starEach [e] (Φ.X i).env = (false, eval e (Φ.X i).env) :: starEach [] (Φ.X i).env := by intro _; rfl) (hpl : ∀ i, (backTo pos (starEach [] (Φ.X i).env)).any (·.1) = false := by intro _; rfl) : DE Φ W (.Call (.Name x p) [e] [] pos) (wCall s w) := by
  obtain ⟨r, c1, c2⟩ := hc
  obtain ⟨t, h1, h2⟩ := ha
  exact ⟨_, fun i => pe_callTy (c1 i) (hg i) (hm i) hv (pa_cons (h1 i) pa_nil (he i)) hn hdb (he i) (hpl i), call_run c2 h2⟩
end
def sLen : S1 := fun x Q => match x with
  | .str z => z.length ≤ sizeLine ∧ Q (.d (.int z.length))
  | .lst xs => Q (.d (.int xs.length))
  | .tup xs => Q (.d (.int xs.length))
  | .scr xs => Q (.d (.int xs.length))
  | _ => False
section
variable {Φ : Fam}
theorem cd_len : CallD Φ (.builtin "len") sLen := by
  refine ⟨fun xs H Q => ∃ x n, xs = [x] ∧ LenV Φ.K x H n ∧ Q (.int n) H, fun i => by have h := call_len (X := Φ.X i); rw [Φ.hK i] at h; exact h, fun B F H σ δ x v Q Qh r hx hs p => ?_⟩
  unfold sLen at hs
  split at hs
  · obtain rfl := hx.str
    exact ⟨_, _, rfl, ⟨hs.1, rfl⟩, p.dat r (.int _) hs.2⟩
  · obtain ⟨a, vs, rfl, h1, h2⟩ := hx.lst r.sub
    exact ⟨_, _, rfl, .inl ⟨vs, .of h1, h2.len.symm⟩, p.dat r (.int _) hs⟩
  · obtain ⟨a, vs, rfl, h1, h2⟩ := hx.tup r.sub
    exact ⟨_, _, rfl, .inr ⟨vs, .of h1, h2.len.symm⟩, p.dat r (.int _) hs⟩
  · obtain ⟨a, rfl, h1⟩ := hx.scr r.sub
    exact ⟨_, _, rfl, .inl ⟨_, h1, by rw [List.length_map]⟩, p.dat r (.int _) hs⟩
  · exact hs.elim
def sToInt : S1 := fun x Q => match x with
  | .int i => Q (.d (.int i))
  | .bl b => Q (.d (.int (if b then 1 else 0)))
  | _ => False
theorem cd_int : CallD Φ (.type "int") sToInt := by
  refine ⟨_, fun _ => call_int1, fun B F H σ δ x v Q Qh r hx hs p => ?_⟩
  unfold sToInt at hs
  split at hs
  · obtain rfl := hx.int
    exact .inl ⟨_, rfl, p.dat r (.int _) hs⟩
  · obtain rfl := hx.bl
    exact .inr ⟨_, rfl, p.dat r (.int _) hs⟩
  · exact hs.elim
def sList : S1 := fun x Q => match x with
  | .lst xs => Q (.o (.l xs))
  | .tup xs => Q (.o (.l xs))
  | _ => False
theorem cd_list : CallD Φ (.type "list") sList := by
  refine ⟨fun xs H Q => ∃ p ys, xs = [.ref p] ∧ (SqL Φ.K H p ys ∨ SqT Φ.K H p ys) ∧ ∀ l, H l = none → Q (.ref l) (upd H l (.lst ys)), fun i => by have h := call_list_of (X := Φ.X i); rw [Φ.hK i] at h; exact h, fun B F H σ δ x v Q Qh r hx hs p => ?_⟩
  unfold sList at hs
  split at hs
  · obtain ⟨a, vs, rfl, h1, h2⟩ := hx.lst r.sub
    exact ⟨_, _, rfl, .inl (.of h1), p.lst r h2 hs⟩
  · obtain ⟨a, vs, rfl, h1, h2⟩ := hx.tup r.sub
    exact ⟨_, _, rfl, .inr (.of h1), p.lst r h2 hs⟩
  · exact hs.elim
def sTuple : S1 := fun x Q => match x with
  | .lst xs => Q (.d (.tup xs))
  | _ => False
theorem cd_tuple : CallD Φ (.type "tuple") sTuple := by
  refine ⟨fun xs H Q => ∃ p ys, xs = [.ref p] ∧ ((SqL Φ.K H p ys ∧ ∀ l, H l = none → Q (.ref l) (upd H l (.tup ys))) ∨ (SqT Φ.K H p ys ∧ Q (.ref p) H)), fun i => by have h := call_tuple_of (X := Φ.X i); rw [Φ.hK i] at h; exact h, fun B F H σ δ x v Q Qh r hx hs p => ?_⟩
  unfold sTuple at hs
  split at hs
  · obtain ⟨a, vs, rfl, h1, h2⟩ := hx.lst r.sub
    exact ⟨_, _, rfl, .inl ⟨.of h1, p.tup r h2 hs⟩⟩
  · exact hs.elim
def strs? : List D → Option (List Str)
  | [] => some []
  | .str x :: r => (strs? r).map (x :: ·)
  | _ => none
theorem strs?_map : ∀ xs : List Str, strs? (xs.map D.str) = some xs
  | [] => rfl
  | x :: xs => by
    show (strs? (xs.map D.str)).map (x :: ·) = _
    rw [strs?_map xs]
    rfl
theorem strs?_of : ∀ {ds : List D} {xs : List Str}, strs? ds = some xs → ds = xs.map D.str
  | [], _, h => by cases h; rfl
  | .str x :: r, xs, h => by
    have h' : (strs? r).map (x :: ·) = some xs := h
    cases e : strs? r with
    | none => rw [e] at h'; cases h'
    | some ys =>
      rw [e] at h'
      cases h'
      rw [strs?_of e]
      rfl
def ints? : List D → Option (List Int)
  | [] => some []
  | .int x :: r => (ints? r).map (x :: ·)
  | _ => none
theorem ints?_map : ∀ xs : List Int, ints? (xs.map D.int) = some xs
  | [] => rfl
  | x :: xs => by
    show (ints? (xs.map D.int)).map (x :: ·) = _
    rw [ints?_map xs]
    rfl
theorem ints?_of : ∀ {ds : List D} {xs : List Int}, ints? ds = some xs → ds = xs.map D.int
  | [], _, h => by cases h; rfl
  | .int x :: r, xs, h => by
    have h' : (ints? r).map (x :: ·) = some xs := h
    cases e : ints? r with
    | none => rw [e] at h'; cases h'
    | some ys =>
      rw [e] at h'
      cases h'
      rw [ints?_of e]
      rfl
def sSum : S1 := fun x Q => match x with
  | .lst xs => match ints? xs with
    | some ns => Q (.d (.int ns.sum))
    | none => False
  | _ => False
def sIx : S2 := fun x y Q => match x, y with
  | .lst xs, .int i => match atI xs i with
    | some d => Q (.d d)
    | none => False
  | .tup xs, .int i => match atI xs i with
    | some d => Q (.d d)
    | none => False
  | .str z, .int i => z.length ≤ sizeLine ∧ match atI z.cps.toList i with
    | some c => Q (.d (.str ⟨#[c]⟩))
    | none => False
  | .scr xs, .int i => match atI xs i with
    | some d => Q (.d (.int d))
    | none => False
  | _, _ => False
theorem RepL.atI {K : PySem.W.Frag} {F : Hp} {vs : List V} {xs : List D} {i : Int} {d : D} (r : RepL K F vs xs) (h : L2.atI xs i = some d) : ∃ v, L2.atI vs i = some v ∧ Rep K F v d := by
  unfold L2.atI at h ⊢
  rw [r.len]
  cases e : ixN xs.length i with
  | none => rw [e] at h; cases h
  | some j =>
    rw [e] at h
    exact r.get (i := j) h
theorem atI_ints {xs : List Int} {i d : Int} (h : L2.atI xs i = some d) : L2.atI (xs.map V.int) i = some (.int d) := by
  unfold L2.atI at h ⊢
  rw [List.length_map]
  cases e : ixN xs.length i with
  | none => rw [e] at h; cases h
  | some j =>
    rw [e] at h
    have h' : xs[j]? = some d := h
    show (xs.map V.int)[j]? = _
    rw [List.getElem?_map, h']
    rfl
theorem ix_d : ∃ r, (∀ i, IxR (Φ.X i) r) ∧ ∀ (B : Bs) (F H : Hp) (σ : St) (δ : Dl) (x y : D) (v u : V) (Q : SD → Dl → Prop) (Qh : VK), RB Φ.K B F H σ δ → PR Φ.K F H v x → PR Φ.K F H u y → sIx x y (fun sd => Q sd δ) → Post Φ.K B σ δ F H Q Qh → r v u H Qh := by
  refine ⟨rIx Φ.K, fun i => by have h := ix_seq (X := Φ.X i); rw [Φ.hK i] at h; exact h, fun B F H σ δ x y v u Q Qh r hx hy hs p => ?_⟩
  unfold sIx at hs
  split at hs
  · split at hs
    · rename_i xs i d e
      obtain ⟨a, vs, rfl, h1, h2⟩ := hx.lst r.sub
      obtain rfl := hy.int
      obtain ⟨v, e1, e2⟩ := h2.atI e
      exact .inl ⟨_, _, _, v, rfl, rfl, .of h1, e1, p.dat r e2 hs⟩
    · exact hs.elim
  · split at hs
    · rename_i xs i d e
      obtain ⟨a, vs, rfl, h1, h2⟩ := hx.tup r.sub
      obtain rfl := hy.int
      obtain ⟨v, e1, e2⟩ := h2.atI e
      exact .inr (.inl ⟨_, _, _, v, rfl, rfl, .of h1, e1, p.dat r e2 hs⟩)
    · exact hs.elim
  · obtain ⟨hl, hs⟩ := hs
    split at hs
    · rename_i z i c e
      obtain rfl := hx.str
      obtain rfl := hy.int
      exact .inr (.inr ⟨_, _, _, rfl, rfl, hl, e, p.dat r (.str _) hs⟩)
    · exact hs.elim
  · split at hs
    · rename_i xs i d e
      obtain ⟨a, rfl, h1⟩ := hx.scr r.sub
      obtain rfl := hy.int
      exact .inl ⟨_, _, _, _, rfl, rfl, h1, atI_ints e, p.dat r (.int _) hs⟩
    · exact hs.elim
  · exact hs.elim
def cutD {α : Type} (xs : List α) (lo hi : Option Int) : List α := (xs.drop (HT.sIx xs.length 0 lo)).take (HT.sIx xs.length xs.length hi - HT.sIx xs.length 0 lo)
theorem RepL.cut {K : PySem.W.Frag} {F : Hp} {vs : List V} {xs : List D} (lo hi : Option Int) (r : RepL K F vs xs) : RepL K F (cutV vs lo hi) (cutD xs lo hi) := by
  unfold cutV cutD
  rw [r.len]
  exact (r.drop _).take _
theorem cut_ints (ns : List Int) (lo hi : Option Int) : cutV (ns.map V.int) lo hi = (cutD ns lo hi).map V.int := by
  unfold cutV cutD
  rw [List.length_map, List.map_take, List.map_drop]
abbrev WP := Dl → (Option Int → Dl → Prop) → XQ → Prop
def DP (Φ : Fam) (W : WX) (e : Option Expr) (w : WP) : Prop :=
  ∃ t, (∀ i, PO (Φ.X i) e t) ∧ ∀ (B : Bs) (F H : Hp) (σ : St) (δ : Dl) (Q : Option Int → Dl → Prop) (E : XQ) (Qh : Option Int → Hp → Prop), RB Φ.K B F H σ δ → w δ Q E →
    (∀ o F' H' δ', RB Φ.K B F' H' σ δ' → Stp σ δ δ' F H F' H' → Q o δ' → Qh o H') → XL Φ.K B W σ E → t σ H Qh
variable {W : WX} {e : Expr} {lo hi : Option Expr} {pos p2 : Pos}
def wNoP : WP := fun δ Q _ => Q none δ
def wSoP (w : WF) : WP := fun δ Q E => w δ (fun x δ' => match x with
  | .int i => Q (some i) δ'
  | _ => False) E
theorem dp_none : DP Φ W none wNoP := ⟨_, fun _ => po_none, fun B F H σ δ Q E Qh r hw p _ => p none F H δ r .refl hw⟩
theorem dp_some {w : WF} (h : DF Φ W e w) : DP Φ W (some e) (wSoP w) := by
  obtain ⟨t, h1, h2⟩ := h
  refine ⟨_, fun i => po_some (h1 i), fun B F H σ δ Q E Qh r hw p x => h2 B F H σ δ _ E _ r hw (fun v F' H' d δ' r' s' rep q => ?_) x⟩
  cases d with
  | int i => cases rep; exact ⟨i, rfl, p _ F' H' δ' r' s' q⟩
  | _ => exact q.elim
def sCut (x : D) (lo hi : Option Int) (Q : SD → Prop) : Prop := match x with
  | .lst xs => Q (.o (.l (cutD xs lo hi)))
  | .scr xs => Q (.o (.l ((cutD xs lo hi).map .int)))
  | _ => False
def wCut (w : WO) (wl wh : WP) : WE := fun δ Q E => w δ (fun o δ1 => wl δ1 (fun l δ2 => wh δ2 (fun h δ3 => match view δ3 o with
  | some x => sCut x l h (fun sd => Q sd δ3)
  | none => False) E) E) E
theorem de_cut {w : WO} {wl wh : WP} (h : DO Φ W e w) (hl : DP Φ W lo wl) (hh : DP Φ W hi wh) : DE Φ W (.Subscript e (.Slice lo hi none p2) pos) (wCut w wl wh) := by
  obtain ⟨t, h1, h2⟩ := h
  obtain ⟨tl, l1, l2⟩ := hl
  obtain ⟨th, k1, k2⟩ := hh
  refine ⟨tSl (rSlL Φ.K) t tl th, fun i => pe_slice (by have h := sl_list (X := Φ.X i); rw [Φ.hK i] at h; exact h) (h1 i) (l1 i) (k1 i), fun B F H σ δ Q E Qh r hw p x => h2 B F H σ δ _ E _ r hw (fun v F1 H1 o δ1 r1 s1 v1 q1 => l2 B F1 H1 σ δ1 _ E _ r1 q1 (fun l F2 H2 δ2 r2 s2 q2 => k2 B F2 H2 σ δ2 _ E _ r2 q2 (fun h F3 H3 δ3 r3 s3 q3 => ?_) x) x) x⟩
  split at q3
  · rename_i y e
    have hx := r3.view (v1.step (s2.f.trans s3.f)) e
    have p3 := p.after ((s1.trans s2).trans s3)
    unfold sCut at q3
    split at q3
    · obtain ⟨a, vs, rfl, h1, h2⟩ := hx.lst r3.sub
      exact ⟨_, _, rfl, .of h1, p3.lst r3 (h2.cut l h) q3⟩
    · obtain ⟨a, rfl, h1⟩ := hx.scr r3.sub
      refine ⟨_, _, rfl, h1, p3.lst r3 ?_ q3⟩
      rw [cut_ints]
      exact repInts _
    · exact q3.elim
  · exact q3.elim
end
end DL
namespace DL
open PySem L2
abbrev DSp := Dl → (SD → Dl → Prop) → XQ → Prop
def toSp (K : PySem.W.Frag) (ds : DSp) : Sp := fun vs H Q E => ∃ (F : Hp) (O : List Addr) (α : Dl) (Qd : SD → Dl → Prop) (Ed : XQ),
  RB K ⟨F, H, O, vs.map some⟩ F H (vs.map some) α ∧ ds α Qd Ed ∧
  (∀ v F' H' sd α', RB K ⟨F, H, O, vs.map some⟩ F' H' (vs.map some) α' → SR K ⟨F, H, O, vs.map some⟩ H F' H' (vs.map some) α' v sd → Qd sd α' → Q v H') ∧
  (∀ F' H' α' C dd f v x, RB K ⟨F, H, O, vs.map some⟩ F' H' (vs.map some) α' → H' dd = some (.xd [(f, v)]) → H dd = none → Rep K F' v x → Ed C f x α' → E (.ref C) (some dd) H')
section
variable {K : PySem.W.Frag} {B : Bs} {F H F' H' : Hp} {σ : St} {δ : Dl}
def argsD (ds : List D) : Dl := ds.map fun d => some (.d d)
theorem argsD_get {ds : List D} {i : Nat} {sd : SD} (h : (argsD ds)[i]? = some (some sd)) : ∃ d, ds[i]? = some d ∧ sd = .d d := by
  unfold argsD at h
  rw [List.getElem?_map] at h
  cases e : ds[i]? with
  | none => rw [e] at h; cases h
  | some d => rw [e] at h; cases h; exact ⟨d, rfl, rfl⟩
theorem argsD_own {ds : List D} {i : Nat} : ¬ isOwn (argsD ds) i := fun ⟨c, e⟩ => by
  rcases e with e | e <;> (obtain ⟨d, _, z⟩ := argsD_get e; cases z)
theorem st_get {vs : List V} {i : Nat} {v : V} (h : vs[i]? = some v) : (vs.map some)[i]? = some (some v) := by rw [List.getElem?_map, h]; rfl
theorem RB.args (r : RB K B F H σ δ) {vs : List V} {ds : List D} (h : RepL K F vs ds) : RB K ⟨F, H, [], vs.map some⟩ F H (vs.map some) (argsD ds) := by
  refine ⟨r.sub, by unfold argsD; rw [List.length_map, List.length_map, h.len], fun i x e => ?_, fun i c e => ?_, fun i c e => ?_, fun i j a h1 => absurd h1 argsD_own, .refl _, fun b o e _ => e, fun b hb => (nomatch hb), fun b o e => .inl ⟨o, e⟩⟩
  · obtain ⟨d, e1, e2⟩ := argsD_get e
    cases e2
    obtain ⟨v, e3, e4⟩ := h.get e1
    exact ⟨v, st_get e3, e4⟩
  · obtain ⟨d, e1, e2⟩ := argsD_get e
    cases e2
  · obtain ⟨d, e1, e2⟩ := argsD_get e
    cases e2
theorem RB.back {τ : St} {α : Dl} (r : RB K B F H σ δ) (r' : RB K ⟨F, H, [], τ⟩ F' H' τ α) : RB K B F' H' σ δ ∧ Stp σ δ δ F H F' H' := by
  have hh : Same H H' := fun b o e => r'.h0 b o e (fun z => nomatch z)
  have fn : ∀ {a o}, F a = none → H a = some o → F' a = none := fun {a o} h1 h2 => by
    cases e : F' a with
    | none => rfl
    | some u =>
      rcases r'.nw a u e with ⟨z, q⟩ | q
      · have q' : F a = some z := q
        rw [h1] at q'; cases q'
      · have q' : H a = none := q
        rw [h2] at q'; cases q'
  have oa : ∀ {a c}, OwnA K F H a c → OwnA K F' H' a c := fun {a c} ⟨h1, u, h2, h3⟩ => ⟨fn h1 h2, u, hh _ _ h2, h3.mono r'.f0⟩
  refine ⟨⟨r'.sub, r.len, fun i x e => let ⟨v, h1, h2⟩ := r.dat i x e; ⟨v, h1, h2.mono r'.f0⟩, fun i c e => let ⟨a, h1, h2, h3⟩ := r.own i c e; ⟨a, h1, oa h2, h3⟩, fun i c e => let ⟨a, h1, h2, h3⟩ := r.par i c e; ⟨a, h1, oa h2, h3⟩, r.apt, r.f0.trans r'.f0,
    fun b o e n => hh _ _ (r.h0 b o e n), fun b hb => ?_, fun b o e => ?_⟩, ⟨r'.f0, fun b o e _ => hh _ _ e, fun b o e => ?_, fun _ z => z, fun b o e => ⟨o, hh _ _ e⟩⟩⟩
  · obtain ⟨h1, ⟨o, h2⟩, h3⟩ := r.hO b hb
    exact ⟨fn h1 h2, ⟨o, hh _ _ h2⟩, h3⟩
  · rcases r'.nw b o e with ⟨z, q⟩ | q
    · exact r.nw b z q
    · exact .inr (r.hnone q)
  · rcases r'.nw b o e with ⟨z, q⟩ | q
    · exact .inl ⟨z, q⟩
    · exact .inr (.inl q)
theorem SR.back {τ : St} {α : Dl} {v : V} (r : RB K B F H σ δ) (r' : RB K B F' H' σ δ) (s : Stp σ δ δ F H F' H') : ∀ {sd : SD}, SR K ⟨F, H, [], τ⟩ H F' H' τ α v sd → SR K B H F' H' σ δ v sd
  | .d _, h => h
  | .o _, ⟨a, e, h, _, _, z⟩ => ⟨a, e, h, r.now z, r.hnone z, z⟩
  | .p _, h => h.elim
theorem RB.argsP (r : RB K B F H σ δ) {a : Addr} {c : Cn} {vs : List V} {ds : List D} (o : OwnA K F H a c) (h : RepL K F vs ds) : RB K ⟨F, H, [a], (V.ref a :: vs).map some⟩ F H ((V.ref a :: vs).map some) (some (.p c) :: argsD ds) := by
  have ow0 : ∀ {i}, isOwn (some (.p c) :: argsD ds) i → i = 0 := fun {i} ⟨c', e⟩ => by
    cases i with
    | zero => rfl
    | succ i => exact absurd ⟨c', e⟩ (argsD_own (ds := ds) (i := i))
  refine ⟨r.sub, ?_, fun i x e => ?_, fun i c' e => ?_, fun i c' e => ?_, fun i j b h1 h2 _ _ => (ow0 h1).trans (ow0 h2).symm, .refl _, fun b u e _ => e, fun b hb => ?_, fun b u e => .inl ⟨u, e⟩⟩
  · unfold argsD
    rw [List.length_cons, List.length_map, List.length_map, List.length_cons, h.len]
  · cases i with
    | zero => cases e
    | succ i =>
      obtain ⟨d, e1, e2⟩ := argsD_get (i := i) e
      cases e2
      obtain ⟨v, e3, e4⟩ := h.get e1
      exact ⟨v, st_get (i := i) e3, e4⟩
  · cases i with
    | zero => cases e
    | succ i =>
      obtain ⟨d, e1, e2⟩ := argsD_get (i := i) e
      cases e2
  · cases i with
    | zero =>
      cases e
      exact ⟨a, rfl, o, List.mem_cons_self, rfl⟩
    | succ i =>
      obtain ⟨d, e1, e2⟩ := argsD_get (i := i) e
      cases e2
  · have e : b = a := by simpa using hb
    subst e
    obtain ⟨h1, u, h2, _⟩ := o
    exact ⟨h1, ⟨u, h2⟩, u, h2⟩
def keepKind (δ : Dl) (i : Nat) (c : Cn) : Dl := match δ[i]? with
  | some (some (.o _)) => δ.set i (some (.o c))
  | some (some (.p _)) => δ.set i (some (.p c))
  | _ => δ
def ownOf (δ : Dl) (i : Nat) : Option Cn := match δ[i]? with
  | some (some (.o c)) => some c
  | some (some (.p c)) => some c
  | _ => none
theorem ownOf_at (r : RB K B F H σ δ) {i : Nat} {c : Cn} (h : ownOf δ i = some c) : ∃ a, σ[i]? = some (some (.ref a)) ∧ OwnA K F H a c ∧ Ow σ δ a := by
  unfold ownOf at h
  split at h
  · rename_i c' e
    cases h
    obtain ⟨a, h1, h2, _⟩ := r.own i c e
    exact ⟨a, h1, h2, i, ⟨c, .inl e⟩, h1⟩
  · rename_i c' e
    cases h
    obtain ⟨a, h1, h2, _⟩ := r.par i c e
    exact ⟨a, h1, h2, i, ⟨c, .inr e⟩, h1⟩
  · cases h
theorem keepKind_get {δ : Dl} {i j : Nat} {c c0 : Cn} (h : ownOf δ i = some c0) : (keepKind δ i c)[j]? = if i = j then (match δ[i]? with | some (some (.o _)) => some (some (.o c)) | _ => some (some (.p c))) else δ[j]? := by
  unfold keepKind
  unfold ownOf at h
  split at h
  · rename_i c' e
    have hi : i < δ.length := (List.getElem?_eq_some_iff.mp e).1
    by_cases q : i = j
    · subst q
      rw [if_pos rfl, e]
      simp only [List.getElem?_set_self hi]
    · rw [if_neg q]
      simp only [List.getElem?_set_ne q]
  · rename_i c' e
    have hi : i < δ.length := (List.getElem?_eq_some_iff.mp e).1
    by_cases q : i = j
    · subst q
      rw [if_pos rfl, e]
      simp only [List.getElem?_set_self hi]
    · rw [if_neg q]
      simp only [List.getElem?_set_ne q]
  · cases h
theorem keepKind_len (δ : Dl) (i : Nat) (c : Cn) : (keepKind δ i c).length = δ.length := by
  unfold keepKind
  split <;> simp
theorem isOwn_keep {i j : Nat} {c c0 : Cn} (h : ownOf δ i = some c0) (q : isOwn (keepKind δ i c) j) : isOwn δ j := by
  obtain ⟨c', e⟩ := q
  rw [keepKind_get h] at e
  by_cases z : i = j
  · subst z
    unfold ownOf at h
    split at h
    · rename_i c2 e2; exact ⟨c2, .inl e2⟩
    · rename_i c2 e2; exact ⟨c2, .inr e2⟩
    · cases h
  · rw [if_neg z] at e
    exact ⟨c', e⟩
theorem RB.chg {i : Nat} {a : Addr} {c c0 : Cn} (r : RB K B F H σ δ) (h : ownOf δ i = some c0) (ha : σ[i]? = some (some (.ref a))) (f : Same F F') (sub : Same F' H') (oa : OwnA K F' H' a c) (hh : ∀ b o, H b = some o → b ≠ a → H' b = some o)
    (nw : ∀ b o, F' b = some o → (∃ o', F b = some o') ∨ H b = none) : RB K B F' H' σ (keepKind δ i c) ∧ Stp σ δ (keepKind δ i c) F H F' H' := by
  obtain ⟨a', ha', o0, ow⟩ := ownOf_at r h
  rw [ha] at ha'; cases ha'
  have fn : ∀ {b o}, F b = none → H b = some o → F' b = none := fun {b o} h1 h2 => by
    cases e : F' b with
    | none => rfl
    | some u =>
      rcases nw b u e with ⟨z, q⟩ | q
      · rw [h1] at q; cases q
      · rw [h2] at q; cases q
  have oth : ∀ {b c'}, OwnA K F H b c' → b ≠ a → OwnA K F' H' b c' := fun {b c'} ⟨h1, u, h2, h3⟩ n => ⟨fn h1 h2, u, hh _ _ h2 n, h3.mono f⟩
  have iso : isOwn δ i := by
    obtain ⟨j, q, hs⟩ := ow
    unfold ownOf at h
    split at h
    · rename_i c2 e2; exact ⟨c2, .inl e2⟩
    · rename_i c2 e2; exact ⟨c2, .inr e2⟩
    · cases h
  have nea : ∀ {j b c'}, i ≠ j → (δ[j]? = some (some (.o c')) ∨ δ[j]? = some (some (.p c'))) → σ[j]? = some (some (.ref b)) → b ≠ a := fun {j b c'} q e hb z => by
    subst z
    exact q (r.apt i j b iso ⟨c', e⟩ ha hb)
  have hk : ∀ b o, H b = some o → ∃ o', H' b = some o' := fun b o e => by
    by_cases q : b = a
    · subst q
      obtain ⟨_, u, h2, _⟩ := oa
      exact ⟨u, h2⟩
    · exact ⟨o, hh b o e q⟩
  refine ⟨⟨sub, by rw [keepKind_len]; exact r.len, fun j x e => ?_, fun j c' e => ?_, fun j c' e => ?_, fun j l b h1 h2 h3 h4 => r.apt j l b (isOwn_keep h h1) (isOwn_keep h h2) h3 h4, r.f0.trans f, fun b o e n => ?_, fun b hb => ?_, fun b o e => ?_⟩,
    ⟨f, fun b o e n => hh b o e fun z => n (z ▸ ow), fun b o e => ?_, fun b ⟨j, q, hs⟩ => ⟨j, isOwn_keep h q, hs⟩, hk⟩⟩
  · rw [keepKind_get h] at e
    by_cases q : i = j
    · rw [if_pos q] at e
      split at e <;> cases e
    · rw [if_neg q] at e
      obtain ⟨v, h1, h2⟩ := r.dat j x e
      exact ⟨v, h1, h2.mono f⟩
  · rw [keepKind_get h] at e
    by_cases q : i = j
    · subst q
      rw [if_pos rfl] at e
      split at e
      · rename_i c2 e2
        cases e
        obtain ⟨b, h1, _, h3⟩ := r.own i c2 e2
        rw [ha] at h1; cases h1
        exact ⟨a, ha, oa, h3⟩
      · cases e
    · rw [if_neg q] at e
      obtain ⟨b, h1, h2, h3⟩ := r.own j c' e
      exact ⟨b, h1, oth h2 (nea q (.inl e) h1), h3⟩
  · rw [keepKind_get h] at e
    by_cases q : i = j
    · subst q
      rw [if_pos rfl] at e
      split at e
      · cases e
      · rename_i ne
        cases e
        unfold ownOf at h
        split at h
        · rename_i c2 e2; exact absurd e2 (ne c2)
        · rename_i c2 e2
          obtain ⟨b, h1, _, h3⟩ := r.par i c2 e2
          rw [ha] at h1; cases h1
          exact ⟨a, ha, oa, h3⟩
        · cases h
    · rw [if_neg q] at e
      obtain ⟨b, h1, h2, h3⟩ := r.par j c' e
      exact ⟨b, h1, oth h2 (nea q (.inr e) h1), h3⟩
  · refine hh b o (r.h0 b o e n) fun z => ?_
    subst z
    unfold ownOf at h
    split at h
    · rename_i c2 e2
      obtain ⟨b', h1, _, h3⟩ := r.own i c2 e2
      rw [ha] at h1; cases h1
      rw [h3] at e; cases e
    · rename_i c2 e2
      obtain ⟨b', h1, _, h3, _⟩ := r.par i c2 e2
      rw [ha] at h1; cases h1
      exact n h3
    · cases h
  · obtain ⟨h1, ⟨o, h2⟩, h3⟩ := r.hO b hb
    exact ⟨fn h1 h2, hk b o h2, h3⟩
  · rcases nw b o e with ⟨z, q⟩ | q
    · exact r.nw b z q
    · exact .inr (r.hnone q)
  · rcases nw b o e with ⟨z, q⟩ | q
    · exact .inl ⟨z, q⟩
    · exact .inr (.inl q)
end
structure FnD (Φ : Fam) (k : Nat) (f : Addr) (fd : FuncData) (ps : List Str) (ds : DSp) : Prop where
  ok : ∀ i, FnOk (Φ.X i).prog (Φ.X i).w (Φ.X i).K (Φ.X i).mg (Φ.X i).base (L2.CX (Φ.X i).prog (Φ.X i).w) k f fd ps (toSp Φ.K ds)
  kp : ∀ i, PySem.W.keepIn (Φ.X i).K (.ref f) = true
  bi : ∀ i, Binds (Φ.X i).K fd ps []
section
variable {Φ : Fam} {W : WX} {k : Nat} {f : Addr} {fd : FuncData} {ps : List Str} {ds : DSp} {x : Str} {p pos : Pos} {e : Expr} {es : List Expr}
def wFn (ds : DSp) (w : WL) : WE := fun δ Q E => w δ (fun xs δ1 => ds (argsD xs) (fun sd _ => Q sd δ1) (fun C f x _ => E C f x δ1)) E
def wFnP (ds : DSp) (i : Nat) (w : WL) : WE := fun δ Q E => (∃ c0, ownOf δ i = some c0) ∧ w δ (fun xs δ1 => match ownOf δ1 i with
  | some c => ds (some (.p c) :: argsD xs) (fun sd α => match α with
      | some (.p c') :: _ => Q sd (keepKind δ1 i c')
      | _ => False) (fun C f x α => match α with
      | some (.p c') :: _ => E C f x (keepKind δ1 i c')
      | _ => False)
  | none => False) E
theorem hdP {α : Dl} {R : Cn → Prop} (h : match α with | some (.p c') :: _ => R c' | _ => False) : ∃ c' r, α = some (.p c') :: r ∧ R c' := by
  split at h
  · exact ⟨_, _, rfl, h⟩
  · exact h.elim
end
structure WEnds where
  nx : Dl → Prop
  rt : SD → Dl → Prop
  bk : Dl → Prop := fun _ => False
  ct : Dl → Prop := fun _ => False
abbrev WS := WEnds → XQ → Dl → Prop
structure LK (K : PySem.W.Frag) (B : Bs) (M : WEnds) (D : Ends) : Prop where
  nx : ∀ F H σ δ, RB K B F H σ δ → M.nx δ → D.nx σ H
  rt : ∀ v F H σ δ sd, RB K B F H σ δ → SR K B B.H F H σ δ v sd → M.rt sd δ → D.rt v H
  bk : ∀ F H σ δ, RB K B F H σ δ → M.bk δ → D.bk σ H
  ct : ∀ F H σ δ, RB K B F H σ δ → M.ct δ → D.ct σ H
def DS (Φ : Fam) (W : WX) (st : Stmt) (w : WS) : Prop :=
  ∃ t, (∀ i, PS (Φ.X i) st t) ∧ ∀ (B : Bs) (F H : Hp) (σ : St) (δ : Dl) (M : WEnds) (E : XQ) (D : Ends), RB Φ.K B F H σ δ → w M E δ → LK Φ.K B M D → (∀ σ', XL Φ.K B W σ' E) → t D σ H
def DSs (Φ : Fam) (W : WX) (st : List Stmt) (w : WS) : Prop :=
  ∃ t, (∀ i, PSs (Φ.X i) st t) ∧ ∀ (B : Bs) (F H : Hp) (σ : St) (δ : Dl) (M : WEnds) (E : XQ) (D : Ends), RB Φ.K B F H σ δ → w M E δ → LK Φ.K B M D → (∀ σ', XL Φ.K B W σ' E) → t D σ H
section
variable {Φ : Fam} {W : WX} {st : Stmt} {rest : List Stmt} {e : Expr} {pos : Pos}
def wNext : WS := fun M _ δ => M.nx δ
def wSeq (w u : WS) : WS := fun M E δ => w { M with nx := u M E } E δ
theorem dss_nil : DSs Φ W [] wNext := ⟨_, fun _ => pss_nil, fun B F H σ δ M E D r h l _ => l.nx F H σ δ r h⟩
theorem dss_cons {w u : WS} (h : DS Φ W st w) (h' : DSs Φ W rest u) : DSs Φ W (st :: rest) (wSeq w u) := by
  obtain ⟨t, h1, h2⟩ := h
  obtain ⟨t', h1', h2'⟩ := h'
  refine ⟨_, fun i => pss_cons (h1 i) (h1' i), fun B F H σ δ M E D r hw l x => h2 B F H σ δ _ E _ r hw ⟨fun F1 H1 σ1 δ1 r1 q => h2' B F1 H1 σ1 δ1 M E D r1 q l x, l.rt, l.bk, l.ct⟩ x⟩
theorem dss_one {w : WS} (h : DS Φ W st w) : DSs Φ W [st] w := by
  obtain ⟨t, h1, h2⟩ := h
  exact ⟨_, fun i => pss_one (h1 i), h2⟩
def wBreak : WS := fun M _ δ => M.bk δ
def wCont : WS := fun M _ δ => M.ct δ
def wDrop (w : WE) : WS := fun M E δ => w δ (fun _ δ' => M.nx δ') E
theorem ds_expr {w : WE} (h : DE Φ W e w) (hs : ∀ i, swapsWith e none pos.line (Φ.X i).env = pure false := by intro _; rfl) : DS Φ W (.Expr e pos) (wDrop w) := by
  obtain ⟨t, h1, h2⟩ := h
  exact ⟨_, fun i => ps_expr (h1 i) (hs i), fun B F H σ δ M E D r hw l x => h2 B F H σ δ _ E _ r hw (fun v F1 H1 sd δ1 r1 s1 sr q => l.nx F1 H1 σ δ1 r1 q) (x σ)⟩
def wRet (w : WE) : WS := fun M E δ => w δ (fun sd δ' => M.rt sd δ') E
theorem ds_ret {w : WE} (h : DE Φ W e w) : DS Φ W (.Return (some e) pos) (wRet w) := by
  obtain ⟨t, h1, h2⟩ := h
  exact ⟨_, fun i => ps_ret (h1 i), fun B F H σ δ M E D r hw l x => h2 B F H σ δ _ E _ r hw (fun v F1 H1 sd δ1 r1 s1 sr q => l.rt v F1 H1 σ δ1 sd r1 (sr.old fun p z => r.hnone z) q) (x σ)⟩
def wRetN : WS := fun M _ δ => M.rt (.d .non) δ
def wIf (c : WT) (w u : WS) : WS := fun M E δ => c δ (fun b δ' => if b = true then w M E δ' else u M E δ') E
theorem ds_if {c : Expr} {a b : List Stmt} {wc : WT} {w u : WS} (hc : DT Φ W c wc) (h : DSs Φ W a w) (h' : DSs Φ W b u) : DS Φ W (.If c a b pos) (wIf wc w u) := by
  obtain ⟨tc, c1, c2⟩ := hc
  obtain ⟨t, h1, h2⟩ := h
  obtain ⟨t', h1', h2'⟩ := h'
  refine ⟨_, fun i => ps_if (c1 i) (h1 i) (h1' i), fun B F H σ δ M E D r hw l x => c2 B F H σ δ _ E _ r hw (fun k F1 H1 δ1 r1 s1 q => ?_) (x σ)⟩
  cases k with
  | true => rw [if_pos rfl] at q ⊢; exact h2 B F1 H1 σ δ1 M E D r1 q l x
  | false => rw [if_neg Bool.false_ne_true] at q ⊢; exact h2' B F1 H1 σ δ1 M E D r1 q l x
def wNever : WS := fun _ _ _ => False
theorem RB.put {K : PySem.W.Frag} {B : Bs} {H0 F H : Hp} {σ : St} {δ : Dl} {i : Nat} {v : V} {sd : SD} (r : RB K B F H σ δ) (h : SR K B H0 F H σ δ v sd) (hi : i < δ.length) : RB K B F H (σ.set i (some v)) (δ.set i (some sd)) := by
  have hs : i < σ.length := by rw [← r.len]; exact hi
  have gs : ∀ {j w}, (σ.set i (some v))[j]? = some (some w) → (i = j ∧ w = v) ∨ (i ≠ j ∧ σ[j]? = some (some w)) := fun {j w} e => by
    by_cases q : i = j
    · subst q
      rw [List.getElem?_set_self hs] at e
      cases e
      exact .inl ⟨rfl, rfl⟩
    · rw [List.getElem?_set_ne q] at e
      exact .inr ⟨q, e⟩
  have gd : ∀ {j u}, (δ.set i (some sd))[j]? = some (some u) → (i = j ∧ u = sd) ∨ (i ≠ j ∧ δ[j]? = some (some u)) := fun {j u} e => by
    by_cases q : i = j
    · subst q
      rw [List.getElem?_set_self hi] at e
      cases e
      exact .inl ⟨rfl, rfl⟩
    · rw [List.getElem?_set_ne q] at e
      exact .inr ⟨q, e⟩
  have to : ∀ {j w}, i ≠ j → σ[j]? = some (some w) → (σ.set i (some v))[j]? = some (some w) := fun {j w} q e => by rw [List.getElem?_set_ne q]; exact e
  refine ⟨r.sub, by rw [List.length_set, List.length_set]; exact r.len, fun j x e => ?_, fun j c e => ?_, fun j c e => ?_, fun j l a h1 h2 h3 h4 => ?_, r.f0, r.h0, r.hO, r.nw⟩
  · rcases gd e with ⟨rfl, e1⟩ | ⟨q, e1⟩
    · subst e1
      exact ⟨v, List.getElem?_set_self hs, h⟩
    · obtain ⟨w, e2, e3⟩ := r.dat j x e1
      exact ⟨w, to q e2, e3⟩
  · rcases gd e with ⟨rfl, e1⟩ | ⟨q, e1⟩
    · subst e1
      obtain ⟨a, rfl, o, _, hb, _⟩ := h
      exact ⟨a, List.getElem?_set_self hs, o, hb⟩
    · obtain ⟨a, e2, e3⟩ := r.own j c e1
      exact ⟨a, to q e2, e3⟩
  · rcases gd e with ⟨rfl, e1⟩ | ⟨q, e1⟩
    · subst e1
      exact h.elim
    · obtain ⟨a, e2, e3⟩ := r.par j c e1
      exact ⟨a, to q e2, e3⟩
  · have old : ∀ {j}, i ≠ j → isOwn (δ.set i (some sd)) j → isOwn δ j := fun {j} q ⟨c, e⟩ => ⟨c, by rw [List.getElem?_set_ne q] at e; exact e⟩
    have newo : isOwn (δ.set i (some sd)) i → ∀ {l}, i ≠ l → isOwn δ l → v = .ref a → σ[l]? = some (some (.ref a)) → False := fun ⟨c, e⟩ {l} q o ev e4 => by
      rcases e with e | e
      · rw [List.getElem?_set_self hi] at e
        injection e with e; injection e with e
        subst e
        obtain ⟨b, e5, _, n, _⟩ := h
        rw [ev] at e5; cases e5
        exact n ⟨l, o, e4⟩
      · rw [List.getElem?_set_self hi] at e
        injection e with e; injection e with e
        subst e
        exact h.elim
    rcases gs h3 with ⟨e1, e2⟩ | ⟨q1, e1⟩
    · rcases gs h4 with ⟨e3, e4⟩ | ⟨q2, e3⟩
      · rw [← e1, ← e3]
      · subst e1
        exact (newo h1 q2 (old q2 h2) e2.symm e3).elim
    · rcases gs h4 with ⟨e3, e4⟩ | ⟨q2, e3⟩
      · subst e3
        exact (newo h2 q1 (old q1 h1) e4.symm e1).elim
      · exact r.apt j l a (old q1 h1) (old q2 h2) e1 e3
def wSet (i : Nat) (w : WE) : WS := fun M E δ => i < δ.length ∧ w δ (fun sd δ' => i < δ'.length ∧ M.nx (δ'.set i (some sd))) E
theorem ds_set {w : WE} (i : Nat) {x : Str} {pos' : Pos} (h : DE Φ W e w) (hN : ∀ j, (Φ.X j).N.Nodup) (hi : ∀ j, (Φ.X j).N[i]? = some x := by intro _; rfl) (hx : ∀ j, Loc (Φ.X j).env.scope x := by intro _; first | exact Or.inl rfl | exact Or.inr rfl)
    (hs : ∀ j, swapsWith e (some (.Name x pos')) pos.line (Φ.X j).env = pure false := by intro _; rfl) (hf : ∀ j, (Φ.X j).fn x = true ∨ (Φ.X j).env.scope.names.lookup x = some .local := by intro _; first | exact .inl rfl | exact .inr rfl) :
    DS Φ W (.Assign [.Name x pos'] e pos) (wSet i w) := by
  obtain ⟨t, h1, h2⟩ := h
  exact ⟨_, fun j => ps_set (hN j) (hi j) (hx j) (h1 j) (hs j) (hf j), fun B F H σ δ M E D r hw l x => h2 B F H σ δ _ E _ r hw.2 (fun v F1 H1 sd δ1 r1 s1 sr q => l.nx F1 H1 _ _ (r1.put sr q.1) q.2) (x σ)⟩
end
end DL
namespace DL
open PySem L2
structure ItOk (K : PySem.W.Frag) (J : It) (F0 : Hp) (xs : List D) : Prop where
  stop : ∀ (i : Nat) (F H : Hp), Same F0 F → Same F H → xs.length ≤ i → J.stop i H
  go : ∀ (i : Nat) (d : D) (F H : Hp), Same F0 F → Same F H → xs[i]? = some d → J.go i H
  yld : ∀ (i : Nat) (d : D) (B : Bs) (F H : Hp) (σ : St) (δ : Dl) (x : V) (H3 : Hp), xs[i]? = some d → Same F0 F → RB K B F H σ δ → J.yld i H x H3 → ∃ F3, RB K B F3 H3 σ δ ∧ Stp σ δ δ F H F3 H3 ∧ Rep K F3 x d
abbrev WI := Dl → (List D → Dl → Prop) → XQ → Prop
def DI (Φ : Fam) (W : WX) (tg iter : Expr) (w : WI) : Prop :=
  ∃ t, (∀ i, PI (Φ.X i) tg iter t) ∧ ∀ (B : Bs) (F H : Hp) (σ : St) (δ : Dl) (Q : List D → Dl → Prop) (E : XQ) (R : It → Hp → Prop), RB Φ.K B F H σ δ → w δ Q E →
    (∀ J F' H' xs δ', RB Φ.K B F' H' σ δ' → Stp σ δ δ' F H F' H' → ItOk Φ.K J F' xs → Q xs δ' → R J H') → XL Φ.K B W σ E → t σ H R
section
variable {K : PySem.W.Frag} {F : Hp}
theorem itOk_list {a : Addr} {vs : List V} {xs : List D} (h : F a = some (.lst vs)) (r : RepL K F vs xs) : ItOk K (Itl K a) F xs := by
  refine ⟨fun i F' H s1 s2 hi => ⟨vs, .of (s2 _ _ (s1 _ _ h)), by rw [r.len]; exact hi⟩, fun i d F' H s1 s2 e => ?_, fun i d B F' H σ δ x H3 e s1 rb y => ?_⟩
  · obtain ⟨v, e1, _⟩ := r.get e
    exact ⟨vs, v, .of (s2 _ _ (s1 _ _ h)), e1⟩
  · obtain ⟨rfl, y⟩ := y
    obtain ⟨v, e1, e2⟩ := r.get e
    have z := y vs (.of (rb.sub _ _ (s1 _ _ h)))
    rw [e1] at z; cases z
    exact ⟨F', rb, .refl, e2.mono s1⟩
def rangeD (lo : Int) (n : Nat) : List D := (List.range n).map fun i => .int (lo + (i : Nat))
theorem rangeD_len (lo : Int) (n : Nat) : (rangeD lo n).length = n := by unfold rangeD; rw [List.length_map, List.length_range]
theorem rangeD_get {lo : Int} {n i : Nat} {d : D} (h : (rangeD lo n)[i]? = some d) : i < n ∧ d = .int (lo + (i : Nat)) := by
  unfold rangeD at h
  rw [List.getElem?_map] at h
  cases e : (List.range n)[i]? with
  | none => rw [e] at h; cases h
  | some j =>
    rw [e] at h
    obtain ⟨h1, h2⟩ := List.getElem?_eq_some_iff.mp e
    rw [List.getElem_range] at h2
    subst h2
    rw [List.length_range] at h1
    cases h
    exact ⟨h1, rfl⟩
theorem itOk_rng (lo : Int) (n : Nat) : ItOk K (Itr lo n) F (rangeD lo n) := by
  refine ⟨fun i F' H s1 s2 hi => by rw [rangeD_len] at hi; exact hi, fun i d F' H s1 s2 e => (rangeD_get e).1, fun i d B F' H σ δ x H3 e s1 rb y => ?_⟩
  obtain ⟨rfl, rfl⟩ := y
  rw [(rangeD_get e).2]
  exact ⟨F', rb, .refl, .int _⟩
def charsD (z : Str) : List D := z.cps.toList.map fun c => D.str ⟨#[c]⟩
theorem itOk_str (z : Str) : ItOk K (Its z) F (charsD z) := by
  have hl : (charsD z).length = z.cps.size := by unfold charsD; rw [List.length_map, Array.length_toList]
  have hg : ∀ {i : Nat} {d : D}, (charsD z)[i]? = some d → ∃ c, z.cps[i]? = some c ∧ d = .str ⟨#[c]⟩ := fun {i d} h => by
    unfold charsD at h
    rw [List.getElem?_map, Array.getElem?_toList] at h
    cases e : z.cps[i]? with
    | none => rw [e] at h; cases h
    | some c => rw [e] at h; cases h; exact ⟨c, rfl, rfl⟩
  refine ⟨fun i F' H s1 s2 hi => by rw [hl] at hi; exact hi, fun i d F' H s1 s2 e => ?_, fun i d B F' H σ δ x H3 e s1 rb y => ?_⟩
  · have := (List.getElem?_eq_some_iff.mp e).1
    rw [hl] at this
    exact this
  · obtain ⟨rfl, c, e1, rfl⟩ := y
    obtain ⟨c', e2, rfl⟩ := hg e
    rw [e1] at e2; cases e2
    exact ⟨F', rb, .refl, .str _⟩
def enumD (xs : List D) : List D := xs.zipIdx.map fun p => D.tup [.int (p.2 : Nat), p.1]
end
section
variable {Φ : Fam} {W : WX} {tg e : Expr} {pos p : Pos}
def wiSeq (w : WF) : WI := fun δ Q E => w δ (fun x δ' => match x with
  | .lst xs => Q xs δ'
  | _ => False) E
def wiTup (w : WF) : WI := fun δ Q E => w δ (fun x δ' => match x with
  | .tup xs => Q xs δ'
  | _ => False) E
theorem di_list {w : WF} (h : DF Φ W e w) : DI Φ W tg e (wiSeq w) := by
  obtain ⟨t, h1, h2⟩ := h
  refine ⟨iList Φ.K t, fun i => by have h := pi_list (X := Φ.X i) (tg := tg) (h1 i); rw [Φ.hK i] at h; exact h, fun B F H σ δ Q E R r hw p x => h2 B F H σ δ _ E _ r hw (fun v F1 H1 d δ1 r1 s1 rep q => ?_) x⟩
  cases d with
  | lst xs =>
    cases rep with
    | lst h3 h4 => exact ⟨_, rfl, ⟨_, .of (r1.sub _ _ h3)⟩, p _ F1 H1 xs δ1 r1 s1 (itOk_list h3 h4) q⟩
  | _ => exact q.elim
def wiStr (w : WF) : WI := fun δ Q E => w δ (fun x δ' => match x with
  | .str z => Q (charsD z) δ'
  | _ => False) E
theorem di_str {w : WF} (h : DF Φ W e w) : DI Φ W tg e (wiStr w) := by
  obtain ⟨t, h1, h2⟩ := h
  refine ⟨_, fun i => pi_str (h1 i), fun B F H σ δ Q E R r hw p x => h2 B F H σ δ _ E _ r hw (fun v F1 H1 d δ1 r1 s1 rep q => ?_) x⟩
  cases d with
  | str z =>
    cases rep
    exact ⟨z, rfl, p _ F1 H1 _ δ1 r1 s1 (itOk_str z) q⟩
  | _ => exact q.elim
def wiRng1 (w : WL) : WI := fun δ Q E => w δ (fun xs δ' => match xs with
  | [.int j] => (-(2 ^ 62) ≤ j ∧ j < 2 ^ 62) ∧ Q (rangeD 0 j.toNat) δ'
  | _ => False) E
theorem di_rng1 {w : WL} (h : DA Φ W [e] w) (hm : ∀ i, (Φ.X i).mg "range" = none) (hg : ∀ i, Gl (Φ.X i) "range" := by intro _; rfl) (hs : ∀ i, starEach [e] (Φ.X i).env = [(false, eval e (Φ.X i).env)] := by intro _; rfl) :
    DI Φ W tg (.Call (.Name "range" p) [e] [] pos) (wiRng1 w) := by
  obtain ⟨t, h1, h2⟩ := h
  refine ⟨_, fun i => pi_range1 (hg i) (hm i) (h1 i) (hs i), fun B F H σ δ Q E R r hw p x => h2 B F H σ δ _ E _ r hw (fun vs F1 H1 xs δ1 r1 s1 reps q => ?_) x⟩
  split at q
  · cases reps with
    | cons a b =>
      cases b
      cases a
      exact ⟨_, rfl, q.1.1, q.1.2, p _ F1 H1 _ δ1 r1 s1 (itOk_rng 0 _) q.2⟩
  · exact q.elim
def wiRng2 (w : WL) : WI := fun δ Q E => w δ (fun xs δ' => match xs with
  | [.int i, .int j] => (-(2 ^ 62) ≤ i ∧ i < 2 ^ 62 ∧ -(2 ^ 62) ≤ j ∧ j < 2 ^ 62) ∧ Q (rangeD i (j - i).toNat) δ'
  | _ => False) E
theorem di_rng2 {e2 : Expr} {w : WL} (h : DA Φ W [e, e2] w) (hm : ∀ i, (Φ.X i).mg "range" = none) (hg : ∀ i, Gl (Φ.X i) "range" := by intro _; rfl) (hs : ∀ i, starEach [e, e2] (Φ.X i).env = [(false, eval e (Φ.X i).env), (false, eval e2 (Φ.X i).env)] := by intro _; rfl)
    (hs2 : ∀ i, starEach [e2] (Φ.X i).env = [(false, eval e2 (Φ.X i).env)] := by intro _; rfl) : DI Φ W tg (.Call (.Name "range" p) [e, e2] [] pos) (wiRng2 w) := by
  obtain ⟨t, h1, h2⟩ := h
  refine ⟨_, fun i => pi_range2 (hg i) (hm i) (h1 i) (hs i) (hs2 i), fun B F H σ δ Q E R r hw p x => h2 B F H σ δ _ E _ r hw (fun vs F1 H1 xs δ1 r1 s1 reps q => ?_) x⟩
  split at q
  · cases reps with
    | cons a b =>
      cases b with
      | cons c d =>
        cases d
        cases a
        cases c
        exact ⟨_, _, rfl, q.1, p _ F1 H1 _ δ1 r1 s1 (itOk_rng _ _) q.2⟩
  · exact q.elim
def wiEnum (w : WL) : WI := fun δ Q E => w δ (fun xs δ' => match xs with
  | [.lst ys] => Q (enumD ys) δ'
  | _ => False) E
abbrev WG := D → Dl → (Dl → Prop) → Prop
abbrev WGs := List D → Dl → (Dl → Prop) → Prop
def Sw (ns : List Nat) (σ σ' : St) : Prop := ∀ vs : List Nat, (∀ n ∈ ns, n ∈ vs) → wipe σ' vs = wipe σ vs
theorem wipe_set {σ : St} {n : Nat} {v : V} : ∀ {vs : List Nat}, n ∈ vs → wipe (σ.set n (some v)) vs = wipe σ vs
  | [], h => nomatch h
  | u :: vs, h => by
    show (wipe (σ.set n (some v)) vs).set u none = (wipe σ vs).set u none
    by_cases q : n ∈ vs
    · rw [wipe_set q]
    · have e : n = u := by
        rcases List.mem_cons.mp h with h | h
        · exact h
        · exact absurd h q
      subst e
      have com : ∀ ws : List Nat, n ∉ ws → wipe (σ.set n (some v)) ws = (wipe σ ws).set n (some v) := by
        intro ws
        induction ws with
        | nil => intro _; rfl
        | cons w ws ih =>
          intro hn
          have h1 : n ≠ w := fun z => hn (z ▸ List.mem_cons_self)
          show (wipe (σ.set n (some v)) ws).set w none = ((wipe σ ws).set w none).set n (some v)
          rw [ih fun z => hn (List.mem_cons_of_mem _ z), List.set_comm _ _ h1]
      rw [com vs q, List.set_set]
theorem Sw.set (σ : St) (n : Nat) (v : V) : Sw [n] σ (σ.set n (some v)) := fun vs h => wipe_set (h n List.mem_cons_self)
theorem Sw.refl (σ : St) : Sw [] σ σ := fun _ _ => rfl
theorem Sw.trans {ns ms : List Nat} {σ σ1 σ2 : St} (a : Sw ns σ σ1) (b : Sw ms σ1 σ2) : Sw (ns ++ ms) σ σ2 := fun vs h => (b vs fun n z => h n (List.mem_append_right _ z)).trans (a vs fun n z => h n (List.mem_append_left _ z))
def DG (Φ : Fam) (tg : Expr) (ns : List Nat) (w : WG) : Prop :=
  ∃ g, (∀ i, PG (Φ.X i) tg g) ∧ ∀ (B : Bs) (F H : Hp) (σ : St) (δ : Dl) (d : D) (v : V) (Q : Dl → Prop) (Qh : St → Hp → Prop), RB Φ.K B F H σ δ → Rep Φ.K F v d → w d δ Q →
    (∀ σ' δ', RB Φ.K B F H σ' δ' → Sw ns σ σ' → (∀ b, Ow σ' δ' b → Ow σ δ b) → Q δ' → Qh σ' H) → g v σ H Qh
def DGs (Φ : Fam) (tg : List Expr) (ns : List Nat) (w : WGs) : Prop :=
  ∃ g, (∀ i, PGs (Φ.X i) tg g) ∧ ∀ (B : Bs) (F H : Hp) (σ : St) (δ : Dl) (ds : List D) (vs : List V) (Q : Dl → Prop) (Qh : St → Hp → Prop), RB Φ.K B F H σ δ → RepL Φ.K F vs ds → w ds δ Q →
    (∀ σ' δ', RB Φ.K B F H σ' δ' → Sw ns σ σ' → (∀ b, Ow σ' δ' b → Ow σ δ b) → Q δ' → Qh σ' H) → g vs σ H Qh
theorem ow_put {σ : St} {δ : Dl} {i : Nat} {v : V} {x : D} {b : Addr} (hi : i < δ.length) (hl : δ.length = σ.length) (h : Ow (σ.set i (some v)) (δ.set i (some (.d x))) b) : Ow σ δ b := by
  obtain ⟨j, ⟨c, e⟩, hs⟩ := h
  by_cases q : i = j
  · subst q
    rw [List.getElem?_set_self hi] at e
    rcases e with e | e <;> cases e
  · rw [List.getElem?_set_ne q] at e hs
    exact ⟨j, ⟨c, e⟩, hs⟩
def wgN (i : Nat) : WG := fun d δ Q => i < δ.length ∧ Q (δ.set i (some (.d d)))
theorem dg_n (i : Nat) {x : Str} (hN : ∀ j, (Φ.X j).N.Nodup) (hi : ∀ j, (Φ.X j).N[i]? = some x := by intro _; rfl) (hx : ∀ j, Loc (Φ.X j).env.scope x := by intro _; first | exact Or.inl rfl | exact Or.inr rfl)
    (hf : ∀ j, (Φ.X j).fn x = true ∨ (Φ.X j).env.scope.names.lookup x = some .local := by intro _; first | exact .inl rfl | exact .inr rfl) : DG Φ (.Name x pos) [i] (wgN i) :=
  ⟨_, fun j => pg_name (hN j) (hi j) (hx j) (hf j), fun B F H σ δ d v Q Qh r rep hw p => p _ _ (r.put (H0 := H) (sd := .d d) rep hw.1) (.set _ _ _) (fun b => ow_put hw.1 r.len) hw.2⟩
def wgNil : WGs := fun ds δ Q => match ds with
  | [] => Q δ
  | _ => False
def wgCons (w : WG) (u : WGs) : WGs := fun ds δ Q => match ds with
  | d :: r => w d δ (fun δ' => u r δ' Q)
  | [] => False
theorem dgs_nil : DGs Φ [] [] wgNil := by
  refine ⟨_, fun _ => pgs_nil, fun B F H σ δ ds vs Q Qh r reps hw p => ?_⟩
  cases reps with
  | nil => exact ⟨rfl, p σ δ r (.refl _) (fun _ z => z) hw⟩
  | cons a b => exact hw.elim
theorem dgs_cons {es : List Expr} {ns ms : List Nat} {w : WG} {u : WGs} (h : DG Φ e ns w) (h' : DGs Φ es ms u) (hs : ∀ i, (assignEach (e :: es) (Φ.X i).env).map (·.2) = assign e (Φ.X i).env :: (assignEach es (Φ.X i).env).map (·.2) := by intro _; rfl) : DGs Φ (e :: es) (ns ++ ms) (wgCons w u) := by
  obtain ⟨g, h1, h2⟩ := h
  obtain ⟨g', h1', h2'⟩ := h'
  refine ⟨_, fun i => pgs_cons (h1 i) (h1' i) (hs i), fun B F H σ δ ds vs Q Qh r reps hw p => ?_⟩
  cases reps with
  | nil => exact hw.elim
  | cons a b => exact ⟨_, _, rfl, h2 B F H σ δ _ _ _ _ r a hw fun σ1 δ1 r1 w1 o1 q => h2' B F H σ1 δ1 _ _ Q Qh r1 b q fun σ2 δ2 r2 w2 o2 q2 => p σ2 δ2 r2 (w1.trans w2) (fun b z => o1 b (o2 b z)) q2⟩
def wgTup (n : Nat) (u : WGs) : WG := fun d δ Q => match d with
  | .tup ds => ds.length = n ∧ u ds δ Q
  | _ => False
theorem dg_tup {es : List Expr} {kk : Nat} {n : Nat} {ns : List Nat} {u : WGs} (h : DGs Φ es ns u) (hc : ∀ i, (Φ.X i).calm = true) (hn : ∀ i, (assignEach es (Φ.X i).env).length = n := by intro _; rfl)
    (hst : ∀ i, (assignEach es (Φ.X i).env).findIdx? (·.1) = none := by intro _; rfl) : DG Φ (.Tuple es kk pos) ns (wgTup n u) := by
  obtain ⟨g, h1, h2⟩ := h
  refine ⟨gTup Φ.K n g, fun i => by have h := pg_tup (k := kk) (pos := pos) (hc i) (h1 i) (hn i) (hst i); rw [Φ.hK i] at h; exact h, fun B F H σ δ d v Q Qh r rep hw p => ?_⟩
  cases d with
  | tup ds =>
    cases rep with
    | tup h3 h4 => exact ⟨_, _, rfl, .of (r.sub _ _ h3), by rw [h4.len]; exact hw.1, h2 B F H σ δ ds _ Q Qh r h4 hw.2 p⟩
  | _ => exact hw.elim
theorem RB.rebase {K : PySem.W.Frag} {B : Bs} {F1 H1 F H : Hp} {σ1 σ : St} {δ1 δ : Dl} (r1 : RB K B F1 H1 σ1 δ1) (r : RB K { B with F := F1 } F H σ δ) : RB K B F H σ δ :=
  ⟨r.sub, r.len, r.dat, r.own, r.par, r.apt, r1.f0.trans r.f0, r.h0, r.hO, fun b o e => by
    rcases r.nw b o e with ⟨z, q⟩ | q
    · exact r1.nw b z q
    · exact .inr q⟩
theorem RB.debase {K : PySem.W.Frag} {B : Bs} {F H : Hp} {σ : St} {δ : Dl} (r : RB K B F H σ δ) : RB K { B with F := F } F H σ δ :=
  ⟨r.sub, r.len, r.dat, r.own, r.par, r.apt, .refl _, r.h0, r.hO, fun b o e => .inl ⟨o, e⟩⟩
theorem SR.bF {K : PySem.W.Frag} {B : Bs} {F1 H0 F H : Hp} {σ : St} {δ : Dl} {v : V} : ∀ {sd : SD}, SR K { B with F := F1 } H0 F H σ δ v sd → SR K B H0 F H σ δ v sd
  | .d _, h => h
  | .o _, h => h
  | .p _, h => h
def wFor (wi : WI) (wg : WG) (wb : WS) : WS := fun M E δ => wi δ (fun xs δ1 => ∃ P : Nat → Dl → Prop, P 0 δ1 ∧
  (∀ i d δ, xs[i]? = some d → P i δ → wg d δ (fun δ2 => wb { nx := P (i + 1), rt := M.rt, bk := M.nx, ct := P (i + 1) } E δ2)) ∧ ∀ δ, P xs.length δ → M.nx δ) E
theorem ds_for {iter : Expr} {body : List Stmt} {wi : WI} {ns : List Nat} {wg : WG} {wb : WS} (hp : ∀ i, PassesOwn (model (Φ.X i).prog (Φ.X i).w) (Φ.X i).A (Φ.X i).env (Φ.X i).xe) (hc : ∀ i, (Φ.X i).calm = true) (hi : DI Φ W tg iter wi) (hg : DG Φ tg ns wg) (hb : DSs Φ W body wb)
    (hs : ∀ i x, foldedSetIterable iter (Φ.X i).env x = pure x := by intro _ _; rfl) : DS Φ W (.For tg iter body [] pos) (wFor wi wg wb) := by
  obtain ⟨ti, i1, i2⟩ := hi
  obtain ⟨g, g1, g2⟩ := hg
  obtain ⟨tb, b1, b2⟩ := hb
  refine ⟨_, fun i => ps_for (hp i) (hc i) (i1 i) (g1 i) (b1 i) (hs i), fun B F H σ δ M E D r hw l x => i2 B F H σ δ _ E _ r hw (fun J F1 H1 xs δ1 r1 s1 ok q => ?_) (x σ)⟩
  obtain ⟨P, p0, ps, pd⟩ := q
  refine ⟨fun i m σ' H' => m = xs.length - i ∧ i ≤ xs.length ∧ ∃ F' δ', RB Φ.K { B with F := F1 } F' H' σ' δ' ∧ P i δ', ⟨xs.length, by simp, Nat.zero_le _, F1, δ1, r1.debase, p0⟩, ?_⟩
  rintro i m σ' H' ⟨rfl, hle, F', δ', r', hP⟩
  by_cases hlt : i < xs.length
  · have e : xs[i]? = some xs[i] := List.getElem?_eq_getElem hlt
    refine .inr ⟨ok.go i _ F' H' r'.f0 r'.sub e, fun σ2 H2 => ∃ F2 δ2, RB Φ.K { B with F := F1 } F2 H2 σ2 δ2 ∧ P (i + 1) δ2, fun σ2 H2 ⟨F2, δ2, r2, h2⟩ => ⟨xs.length - (i + 1), by omega, rfl, hlt, F2, δ2, r2, h2⟩, fun y H2 hy => ?_⟩
    obtain ⟨F3, r3, s3, rep⟩ := ok.yld i _ _ F' H' σ' δ' y H2 e r'.f0 r' hy
    refine g2 _ F3 H2 σ' δ' _ y _ _ r3 rep (ps i _ δ' e hP) fun σ4 δ4 r4 _ _ q4 => ?_
    refine b2 { B with F := F1 } F3 H2 σ4 δ4 _ E _ r4 q4 ⟨fun F5 H5 σ5 δ5 r5 q5 => ⟨F5, δ5, r5, q5⟩, fun v F5 H5 σ5 δ5 sd r5 sr q5 => l.rt v F5 H5 σ5 δ5 sd (r1.rebase r5) sr.bF q5, fun F5 H5 σ5 δ5 r5 q5 => l.nx F5 H5 σ5 δ5 (r1.rebase r5) q5, fun F5 H5 σ5 δ5 r5 q5 => ⟨F5, δ5, r5, q5⟩⟩
      fun σ6 F6 H6 δ6 C dd f v y r6 => x σ6 F6 H6 δ6 C dd f v y (r1.rebase r6)
  · have e : i = xs.length := by omega
    subst e
    exact .inl ⟨ok.stop _ F' H' r'.f0 r'.sub (Nat.le_refl _), l.nx F' H' σ' δ' (r1.rebase r') (pd δ' hP)⟩
end
end DL
namespace DL
open PySem L2
def Fam.blk (Φ : Fam) (scope : Scope) : Fam where
  ι := Φ.ι × Shared × Hp × Addr × List (Str × Addr) × List Addr
  X := fun i => (Φ.X i.1).blk i.2.1 i.2.2.1 scope (compEnvC scope i.2.2.2.2.1 i.2.2.2.1 (Φ.X i.1).env) i.2.2.2.2.2
  K := Φ.K
  hK := fun i => Φ.hK i.1
abbrev W0 : WX := fun _ _ _ _ => False
abbrev E00 : XQ := fun _ _ _ _ => False
def wipeD (δ : Dl) : List Nat → Dl
  | [] => δ
  | v :: vs => (wipeD δ vs).set v none
def unblk (δ0 δ : Dl) : List Nat → Dl
  | [] => δ
  | v :: vs => (unblk δ0 δ vs).set v (δ0.getD v none)
def okW (δ : Dl) (vs : List Nat) : Prop := ∀ n ∈ vs, ¬ isOwn δ n
theorem wipeD_len (δ : Dl) : ∀ vs, (wipeD δ vs).length = δ.length
  | [] => rfl
  | v :: vs => by unfold wipeD; rw [List.length_set, wipeD_len δ vs]
theorem unblk_len (δ0 δ : Dl) : ∀ vs, (unblk δ0 δ vs).length = δ.length
  | [] => rfl
  | v :: vs => by unfold unblk; rw [List.length_set, unblk_len δ0 δ vs]
theorem wipeD_get {δ : Dl} {i : Nat} {sd : SD} : ∀ {vs : List Nat}, (wipeD δ vs)[i]? = some (some sd) → δ[i]? = some (some sd) ∧ i ∉ vs
  | [], h => ⟨h, by simp⟩
  | v :: vs, h => by
    unfold wipeD at h
    by_cases q : v = i
    · subst q
      by_cases l : v < (wipeD δ vs).length
      · rw [List.getElem?_set_self l] at h; cases h
      · rw [List.getElem?_eq_none (by simpa using l)] at h; cases h
    · rw [List.getElem?_set_ne q] at h
      obtain ⟨h1, h2⟩ := wipeD_get h
      exact ⟨h1, by simp only [List.mem_cons, not_or]; exact ⟨fun e => q e.symm, h2⟩⟩
theorem unblk_get {δ0 δ : Dl} {i : Nat} {sd : SD} (hl : δ0.length = δ.length) : ∀ {vs : List Nat}, (unblk δ0 δ vs)[i]? = some (some sd) → (i ∈ vs ∧ δ0[i]? = some (some sd)) ∨ (i ∉ vs ∧ δ[i]? = some (some sd))
  | [], h => .inr ⟨by simp, h⟩
  | v :: vs, h => by
    unfold unblk at h
    by_cases q : v = i
    · subst q
      by_cases l : v < (unblk δ0 δ vs).length
      · rw [List.getElem?_set_self l] at h
        refine .inl ⟨List.mem_cons_self, ?_⟩
        have e : δ0.getD v none = some sd := Option.some.inj h
        rw [List.getD_eq_getElem?_getD] at e
        cases z : δ0[v]? with
        | none => rw [z] at e; cases e
        | some u => rw [z] at e; rw [show u = some sd from e]
      · rw [List.getElem?_eq_none (by simpa using l)] at h; cases h
    · rw [List.getElem?_set_ne q] at h
      rcases unblk_get hl h with ⟨h1, h2⟩ | ⟨h1, h2⟩
      · exact .inl ⟨List.mem_cons_of_mem _ h1, h2⟩
      · exact .inr ⟨by simp only [List.mem_cons, not_or]; exact ⟨fun e => q e.symm, h1⟩, h2⟩
theorem wipe_at (τ : St) (i : Nat) : ∀ ws : List Nat, (wipe τ ws)[i]? = if i ∈ ws then (if i < τ.length then some none else none) else τ[i]?
  | [] => by rw [if_neg (by simp)]; rfl
  | w :: ws => by
    show ((wipe τ ws).set w none)[i]? = _
    by_cases q : w = i
    · subst q
      rw [if_pos List.mem_cons_self, List.getElem?_set_self']
      by_cases l : w < τ.length
      · rw [if_pos l, List.getElem?_eq_getElem (by rw [wipe_length]; exact l)]; rfl
      · rw [if_neg l, List.getElem?_eq_none (by rw [wipe_length]; omega)]; rfl
    · rw [List.getElem?_set_ne q, wipe_at τ i ws]
      by_cases m : i ∈ ws
      · rw [if_pos m, if_pos (List.mem_cons_of_mem _ m)]
      · rw [if_neg m, if_neg fun z => (List.mem_cons.mp z).elim (fun z => q z.symm) m]
theorem wipe_idem (τ : St) (ws : List Nat) : wipe (wipe τ ws) ws = wipe τ ws := by
  refine List.ext_getElem? fun i => ?_
  rw [wipe_at (wipe τ ws), wipe_at τ, wipe_length]
  by_cases m : i ∈ ws
  · rw [if_pos m, if_pos m]
  · rw [if_neg m, if_neg m]
theorem wipe_get {σ σ2 : St} {i : Nat} {vs : List Nat} (h : wipe σ2 vs = wipe σ vs) (hi : i ∉ vs) : σ2[i]? = σ[i]? := by
  have g : ∀ (τ : St) (ws : List Nat), i ∉ ws → (wipe τ ws)[i]? = τ[i]? := by
    intro τ ws
    induction ws with
    | nil => intro _; rfl
    | cons w ws ih =>
      intro hn
      have h1 : w ≠ i := fun z => hn (z ▸ List.mem_cons_self)
      show ((wipe τ ws).set w none)[i]? = _
      rw [List.getElem?_set_ne h1, ih fun z => hn (List.mem_cons_of_mem _ z)]
  rw [← g σ2 vs hi, h, g σ vs hi]
section
variable {K : PySem.W.Frag} {B : Bs} {F H : Hp} {σ σ2 : St} {δ δ2 : Dl} {vs : List Nat}
theorem RB.wipe (r : RB K B F H σ δ) (vs : List Nat) : RB K B F H (wipe σ vs) (wipeD δ vs) := by
  have hs : ∀ {i v}, i ∉ vs → σ[i]? = some (some v) → (L2.wipe σ vs)[i]? = some (some v) := fun {i v} h e => by
    have g : ∀ ws : List Nat, i ∉ ws → (L2.wipe σ ws)[i]? = σ[i]? := by
      intro ws
      induction ws with
      | nil => intro _; rfl
      | cons w ws ih =>
        intro hn
        have h1 : w ≠ i := fun z => hn (z ▸ List.mem_cons_self)
        show ((L2.wipe σ ws).set w none)[i]? = _
        rw [List.getElem?_set_ne h1, ih fun z => hn (List.mem_cons_of_mem _ z)]
    rw [g vs h]; exact e
  have io : ∀ {i}, isOwn (wipeD δ vs) i → isOwn δ i := fun {i} ⟨c, e⟩ => ⟨c, by
    rcases e with e | e
    · exact .inl (wipeD_get e).1
    · exact .inr (wipeD_get e).1⟩
  refine ⟨r.sub, by rw [wipeD_len, wipe_length]; exact r.len, fun i x e => ?_, fun i c e => ?_, fun i c e => ?_, fun i j a h1 h2 h3 h4 => r.apt i j a (io h1) (io h2) (wipe_some h3).1 (wipe_some h4).1, r.f0, r.h0, r.hO, r.nw⟩
  · obtain ⟨e1, e2⟩ := wipeD_get e
    obtain ⟨v, h1, h2⟩ := r.dat i x e1
    exact ⟨v, hs e2 h1, h2⟩
  · obtain ⟨e1, e2⟩ := wipeD_get e
    obtain ⟨v, h1, h2⟩ := r.own i c e1
    exact ⟨v, hs e2 h1, h2⟩
  · obtain ⟨e1, e2⟩ := wipeD_get e
    obtain ⟨v, h1, h2⟩ := r.par i c e1
    exact ⟨v, hs e2 h1, h2⟩
theorem RB.unblk {F0 H0 : Hp} (r0 : RB K B F0 H0 σ δ) (hf : Same F0 F) (r : RB K B F H σ2 δ2) (hw : L2.wipe σ2 vs = L2.wipe σ vs) (ok : okW δ vs) : RB K B F H σ (unblk δ δ2 vs) := by
  have hl : δ.length = δ2.length := by
    have := congrArg List.length hw
    rw [wipe_length, wipe_length] at this
    rw [r0.len, r.len]; exact this.symm
  have io : ∀ {i}, isOwn (DL.unblk δ δ2 vs) i → i ∉ vs ∧ isOwn δ2 i := fun {i} ⟨c, e⟩ => by
    rcases e with e | e
    · rcases unblk_get hl e with ⟨h1, h2⟩ | ⟨h1, h2⟩
      · exact absurd ⟨c, .inl h2⟩ (ok i h1)
      · exact ⟨h1, c, .inl h2⟩
    · rcases unblk_get hl e with ⟨h1, h2⟩ | ⟨h1, h2⟩
      · exact absurd ⟨c, .inr h2⟩ (ok i h1)
      · exact ⟨h1, c, .inr h2⟩
  refine ⟨r.sub, by rw [unblk_len, ← hl]; exact r0.len, fun i x e => ?_, fun i c e => ?_, fun i c e => ?_, fun i j a h1 h2 h3 h4 => ?_, r.f0, r.h0, r.hO, r.nw⟩
  · rcases unblk_get hl e with ⟨h1, h2⟩ | ⟨h1, h2⟩
    · obtain ⟨v, e1, e2⟩ := r0.dat i x h2
      exact ⟨v, e1, e2.mono hf⟩
    · obtain ⟨v, e1, e2⟩ := r.dat i x h2
      exact ⟨v, by rw [← wipe_get hw h1]; exact e1, e2⟩
  · obtain ⟨h1, _⟩ := io ⟨c, .inl e⟩
    rcases unblk_get hl e with ⟨h3, _⟩ | ⟨_, h2⟩
    · exact absurd h3 h1
    · obtain ⟨v, e1, e2⟩ := r.own i c h2
      exact ⟨v, by rw [← wipe_get hw h1]; exact e1, e2⟩
  · obtain ⟨h1, _⟩ := io ⟨c, .inr e⟩
    rcases unblk_get hl e with ⟨h3, _⟩ | ⟨_, h2⟩
    · exact absurd h3 h1
    · obtain ⟨v, e1, e2⟩ := r.par i c h2
      exact ⟨v, by rw [← wipe_get hw h1]; exact e1, e2⟩
  · obtain ⟨a1, a2⟩ := io h1
    obtain ⟨b1, b2⟩ := io h2
    exact r.apt i j a a2 b2 (by rw [wipe_get hw a1]; exact h3) (by rw [wipe_get hw b1]; exact h4)
theorem ow_unblk (hl : δ.length = δ2.length) (hw : L2.wipe σ2 vs = L2.wipe σ vs) (ok : okW δ vs) {b : Addr} (h : Ow σ (unblk δ δ2 vs) b) : Ow σ2 δ2 b := by
  obtain ⟨i, ⟨c, e⟩, hs⟩ := h
  rcases e with e | e
  · rcases unblk_get hl e with ⟨h1, h2⟩ | ⟨h1, h2⟩
    · exact absurd ⟨c, .inl h2⟩ (ok i h1)
    · exact ⟨i, ⟨c, .inl h2⟩, by rw [wipe_get hw h1]; exact hs⟩
  · rcases unblk_get hl e with ⟨h1, h2⟩ | ⟨h1, h2⟩
    · exact absurd ⟨c, .inr h2⟩ (ok i h1)
    · exact ⟨i, ⟨c, .inr h2⟩, by rw [wipe_get hw h1]; exact hs⟩
theorem ow_wipe {b : Addr} (h : Ow (L2.wipe σ vs) (wipeD δ vs) b) : Ow σ δ b := by
  obtain ⟨i, ⟨c, e⟩, hs⟩ := h
  refine ⟨i, ⟨c, ?_⟩, (wipe_some hs).1⟩
  rcases e with e | e
  · exact .inl (wipeD_get e).1
  · exact .inr (wipeD_get e).1
theorem Stp.poke {F' H' : Hp} {δ' : Dl} {p : Addr} {ho : HO} (s : Stp σ δ δ' F H F' H') (hp : H p = none) : Stp σ δ δ' F H F' (upd H' p ho) :=
  ⟨s.f, fun b o e n => by rw [upd_ne (ne_of_none e hp)]; exact s.h b o e n, s.n, s.o, fun b o e => by
    obtain ⟨o', e'⟩ := s.k b o e
    exact ⟨o', by rw [upd_ne (ne_of_none e hp)]; exact e'⟩⟩
theorem SR.step' {H0 F' H' : Hp} {δ' : Dl} {v : V} : ∀ {sd : SD}, SR K B H0 F H σ δ v sd → Stp σ δ δ' F H F' H' → SR K B H0 F' H' σ δ' v sd
  | .d _, h, s => Rep.mono s.f h
  | .o _, ⟨a, e, h, n, b, z⟩, s => ⟨a, e, h.step s n, fun q => n (s.o a q), b, z⟩
  | .p _, h, _ => h.elim
theorem RB.poke {p : Addr} {ho : HO} (r : RB K B F H σ δ) (hF : F p = none) (hn : ¬ Ow σ δ p) (hb : B.H p = none) : RB K B F (upd H p ho) σ δ := by
  have ka : ∀ {a c}, Ow σ δ a → OwnA K F H a c → OwnA K F (upd H p ho) a c := fun {a c} w ⟨h1, u, h2, h3⟩ => ⟨h1, u, by rw [upd_ne (fun z => hn (by rw [← z]; exact w))]; exact h2, h3⟩
  refine ⟨fun b o e => by rw [upd_ne (ne_of_none e hF)]; exact r.sub _ _ e, r.len, r.dat, fun i c e => let ⟨a, h1, h2, h3⟩ := r.own i c e; ⟨a, h1, ka ⟨i, ⟨c, .inl e⟩, h1⟩ h2, h3⟩, fun i c e => let ⟨a, h1, h2, h3⟩ := r.par i c e; ⟨a, h1, ka ⟨i, ⟨c, .inr e⟩, h1⟩ h2, h3⟩, r.apt, r.f0,
    fun b o e n => by rw [upd_ne (ne_of_none e hb)]; exact r.h0 b o e n, fun b hB => ?_, r.nw⟩
  obtain ⟨h1, ⟨o, h2⟩, u, h3⟩ := r.hO b hB
  exact ⟨h1, ⟨o, by rw [upd_ne (ne_of_none h3 hb)]; exact h2⟩, u, h3⟩
end
section
variable {Φ : Fam} {W : WX} {elt tg iter : Expr} {ifs : List Expr} {scope : Scope} {own : List (Str × Nat)} {pos : Pos}
def DTs (Φ : Fam) (W : WX) (ifs : List Expr) (w : WT) : Prop :=
  ∃ t, (∀ i, PTs (Φ.X i) ifs t) ∧ ∀ (B : Bs) (F H : Hp) (σ : St) (δ : Dl) (Q : Bool → Dl → Prop) (E : XQ) (Qh : Bool → Hp → Prop), RB Φ.K B F H σ δ → w δ Q E → PostT Φ.K B σ δ F H Q Qh → XL Φ.K B W σ E → t σ H Qh
def wYes : WT := fun δ Q _ => Q true δ
theorem dts_nil : DTs Φ W [] wYes := ⟨_, fun _ => pts_nil, fun B F H σ δ Q E Qh r hw p _ => p true F H δ r .refl hw⟩
theorem dts_one {e : Expr} {w : WT} (h : DT Φ W e w) : DTs Φ W [e] w := by
  obtain ⟨t, h1, h2⟩ := h
  exact ⟨_, fun i => pts_one (h1 i), h2⟩
def wLc (wi : WI) (wg : WG) (wt : WT) (we : WF) (vs : List Nat) : WE := fun δ Q E => wi δ (fun xs δ1 => ∃ P : Nat → List D → Dl → Prop, P 0 [] δ1 ∧
  (∀ i d ys δ', xs[i]? = some d → P i ys δ' → okW δ' vs ∧ wg d (wipeD δ' vs) (fun δ2 => wt δ2 (fun b δ3 => if b = true then we δ3 (fun y δ4 => ys.length < sizeLine ∧ P (i + 1) (ys ++ [y]) (unblk δ' δ4 vs)) E00 else P (i + 1) ys (unblk δ' δ3 vs)) E00)) ∧
  ∀ ys δ', P xs.length ys δ' → Q (.o (.l ys)) δ') E
theorem lc_run {wi : WI} {ns : List Nat} {wg : WG} {wt : WT} {we : WF} {ti : TI} {g : TG} {tt : TT} {te : TE} (hns : ∀ n ∈ ns, n ∈ own.map (·.2))
    (i2 : ∀ (B : Bs) (F H : Hp) (σ : St) (δ : Dl) (Q : List D → Dl → Prop) (E : XQ) (R : It → Hp → Prop), RB Φ.K B F H σ δ → wi δ Q E → (∀ J F' H' xs δ', RB Φ.K B F' H' σ δ' → Stp σ δ δ' F H F' H' → ItOk Φ.K J F' xs → Q xs δ' → R J H') → XL Φ.K B W σ E → ti σ H R)
    (g2 : ∀ (B : Bs) (F H : Hp) (σ : St) (δ : Dl) (d : D) (v : V) (Q : Dl → Prop) (Qh : St → Hp → Prop), RB Φ.K B F H σ δ → Rep Φ.K F v d → wg d δ Q → (∀ σ' δ', RB Φ.K B F H σ' δ' → Sw ns σ σ' → (∀ b, Ow σ' δ' b → Ow σ δ b) → Q δ' → Qh σ' H) → g v σ H Qh)
    (t2 : ∀ (B : Bs) (F H : Hp) (σ : St) (δ : Dl) (Q : Bool → Dl → Prop) (E : XQ) (Qh : Bool → Hp → Prop), RB Φ.K B F H σ δ → wt δ Q E → PostT Φ.K B σ δ F H Q Qh → XL Φ.K B W0 σ E → tt σ H Qh)
    (e2 : ∀ (B : Bs) (F H : Hp) (σ : St) (δ : Dl) (Q : D → Dl → Prop) (E : XQ) (Qh : VK), RB Φ.K B F H σ δ → we δ Q E → PostF Φ.K B σ δ F H Q Qh → XL Φ.K B W0 σ E → te σ H Qh) :
    ∀ (B : Bs) (F H : Hp) (σ : St) (δ : Dl) (Q : SD → Dl → Prop) (E : XQ) (Qh : VK), RB Φ.K B F H σ δ → wLc wi wg wt we (own.map (·.2)) δ Q E → Post Φ.K B σ δ F H Q Qh → XL Φ.K B W σ E → tLc ti g tt te (own.map (·.2)) σ H Qh := by
  intro B F H σ δ Q E Qh r hw p x
  refine i2 B F H σ δ _ E _ r hw (fun J F1 H1 xs δ1 r1 s1 ok q => ?_) x
  obtain ⟨P, p0, ps, pd⟩ := q
  intro D hD
  have x0 : ∀ (B' : Bs) σ', XL Φ.K B' W0 σ' E00 := fun _ _ _ _ _ _ _ _ _ _ _ _ _ _ z => z
  refine ⟨fun i m H' => m = xs.length - i ∧ i ≤ xs.length ∧ ∃ F' δ' ys, RB Φ.K { B with F := F1 } F' H' σ δ' ∧ Stp σ δ1 δ' F1 H1 F' H' ∧ SR Φ.K { B with F := F1 } H1 F' H' σ δ' (.ref D) (.o (.l ys)) ∧ P i ys δ',
    ⟨xs.length, by simp, Nat.zero_le _, F1, δ1, [], r1.debase.lay hD, .lay hD, ⟨D, rfl, ⟨r1.fnone hD, _, upd_same, .nil⟩, r1.now hD, r1.hnone hD, hD⟩, p0⟩, ?_⟩
  rintro i m H' ⟨rfl, hle, F', δ', ys, r', s', sr, hP⟩
  by_cases hlt : i < xs.length
  · have e : xs[i]? = some xs[i] := List.getElem?_eq_getElem hlt
    refine .inr ⟨ok.go i _ F' H' r'.f0 r'.sub e, fun H2 => ∃ F2 δ2 ys2, RB Φ.K { B with F := F1 } F2 H2 σ δ2 ∧ Stp σ δ1 δ2 F1 H1 F2 H2 ∧ SR Φ.K { B with F := F1 } H1 F2 H2 σ δ2 (.ref D) (.o (.l ys2)) ∧ P (i + 1) ys2 δ2,
      fun H2 ⟨F2, δ2, ys2, h1, h2, h3, h4⟩ => ⟨xs.length - (i + 1), by omega, rfl, hlt, F2, δ2, ys2, h1, h2, h3, h4⟩, fun y H2 hy => ?_⟩
    obtain ⟨F3, r3, s3, rep⟩ := ok.yld i _ _ F' H' σ δ' y H2 e r'.f0 r' hy
    obtain ⟨okw, hw2⟩ := ps i _ ys δ' e hP
    have sr3 := SR.step' sr s3
    have r3w := r3.wipe (own.map (·.2))
    refine g2 _ F3 H2 _ _ _ y _ _ r3w rep hw2 fun σ4 δ4 r4 w4 o4 q4 => ?_
    have hwipe : wipe σ4 (own.map (·.2)) = wipe σ (own.map (·.2)) := (w4 _ hns).trans (wipe_idem σ _)
    refine ⟨hwipe, ?_⟩
    have ow4 : ∀ b, Ow σ4 δ4 b → Ow σ δ' b := fun b z => ow_wipe (o4 b z)
    have fin : ∀ {F6 H6 : Hp} {δ6 : Dl}, RB Φ.K { B with F := F1 } F6 H6 σ4 δ6 → Stp σ4 δ4 δ6 F3 H2 F6 H6 → RB Φ.K { B with F := F1 } F6 H6 σ (unblk δ' δ6 (own.map (·.2))) ∧ Stp σ δ' (unblk δ' δ6 (own.map (·.2))) F3 H2 F6 H6 := fun {F6 H6 δ6} r6 s6 => by
      have hl : δ'.length = δ6.length := by
        have := congrArg List.length hwipe
        rw [wipe_length, wipe_length] at this
        rw [r3.len, r6.len]; exact this.symm
      exact ⟨r3.unblk s6.f r6 hwipe okw, ⟨s6.f, fun b o e n => s6.h b o e fun z => n (ow4 b z), fun b o e => (s6.n b o e).imp id fun z => z.imp id fun z => ow4 b z, fun b z => ow4 b (s6.o b (ow_unblk hl hwipe okw z)), s6.k⟩⟩
    refine t2 _ F3 H2 σ4 δ4 _ E00 _ r4 q4 (fun b F5 H5 δ5 r5 s5 q5 => ?_) (x0 _ _)
    cases b with
    | false =>
      rw [if_neg Bool.false_ne_true] at q5 ⊢
      obtain ⟨r6, s6⟩ := fin r5 s5
      exact ⟨F5, _, ys, r6, (s'.trans s3).trans s6, SR.step' sr3 s6, q5⟩
    | true =>
      rw [if_pos rfl] at q5 ⊢
      refine e2 _ F5 H5 σ4 δ5 _ E00 _ r5 q5 (fun z F6 H6 u δ6 r6 s6 rep6 q6 => ?_) (x0 _ _)
      obtain ⟨r7, s7⟩ := fin r6 (s5.trans s6)
      have sr7 := SR.step' sr3 s7
      obtain ⟨a, ea, ⟨o1, ho, o2, o3⟩, n1, n2, n3⟩ := sr7
      cases ea
      obtain ⟨acc, rfl, o4⟩ := o3.lst
      refine ⟨acc, o2, by rw [o4.len]; exact q6.1, F6, _, ys ++ [u], r7.poke o1 n1 n2, ((s'.trans s3).trans s7).poke n3, ⟨D, rfl, ⟨o1, _, upd_same, o4.app (.cons rep6 .nil)⟩, n1, n2, n3⟩, q6.2⟩
  · have e : i = xs.length := by omega
    subst e
    refine .inl ⟨ok.stop _ F' H' r'.f0 r'.sub (Nat.le_refl _), ?_⟩
    exact p (.ref D) F' H' (.o (.l ys)) δ' (r1.rebase r') (s1.trans s') ((sr.bF).old fun _ z => s1.past z) (pd ys δ' hP)
theorem de_lc {wi : WI} {ns : List Nat} {wg : WG} {wt : WT} {we : WF} (own : List (Str × Nat)) (hc : ∀ i, (Φ.X i).calm = true) (hN : ∀ i, (Φ.X i).N.Nodup) (hi : DI Φ W tg iter wi) (ok : ∀ i, BlkOk (Φ.X i).N (Φ.X i).env.scope scope own)
    (hg : DG (Φ.blk scope) tg ns wg) (ht : DTs (Φ.blk scope) W0 ifs wt) (he : DF (Φ.blk scope) W0 elt we) (hns : ∀ n ∈ ns, n ∈ own.map (·.2) := by decide) (hs : ∀ i x, foldedSetIterable iter (Φ.X i).env x = pure x := by intro _ _; rfl) :
    DE Φ W (.ListComp elt [⟨tg, iter, ifs, 0⟩] scope pos) (wLc wi wg wt we (own.map (·.2))) := by
  obtain ⟨ti, i1, i2⟩ := hi
  obtain ⟨g, g1, g2⟩ := hg
  obtain ⟨tt, t1, t2⟩ := ht
  obtain ⟨te, e1, e2⟩ := he
  exact ⟨_, fun i => pe_lc (hc i) (hN i) (i1 i) (ok i) (fun s H C cl fp => g1 (i, s, H, C, cl, fp)) (fun s H C cl fp => t1 (i, s, H, C, cl, fp)) (fun s H C cl fp => e1 (i, s, H, C, cl, fp)) (hs i), lc_run hns i2 g2 t2 e2⟩
theorem ds_setLc {wi : WI} {ns : List Nat} {wg : WG} {wt : WT} {we : WF} (n : Nat) {y : Str} {py spos : Pos} (own : List (Str × Nat)) (hc : ∀ i, (Φ.X i).calm = true) (hN : ∀ i, (Φ.X i).N.Nodup) (hi : DI Φ W tg iter wi) (ok : ∀ i, BlkOk (Φ.X i).N (Φ.X i).env.scope scope own)
    (hg : DG (Φ.blk scope) tg ns wg) (ht : DTs (Φ.blk scope) W0 ifs wt) (he : DF (Φ.blk scope) W0 elt we) (hy : ∀ i, (Φ.X i).N[n]? = some y := by intro _; rfl) (hyl : ∀ i, (Φ.X i).env.scope.names.lookup y = some .local := by intro _; rfl)
    (hsw : ∀ i, swapsWith (.ListComp elt [⟨tg, iter, ifs, 0⟩] scope pos) (some (.Name y py)) spos.line (Φ.X i).env = pure true := by intro _; exact sw_true rfl rfl rfl (by decide +kernel))
    (hns : ∀ n ∈ ns, n ∈ own.map (·.2) := by decide) (hs : ∀ i x, foldedSetIterable iter (Φ.X i).env x = pure x := by intro _ _; rfl) :
    DS Φ W (.Assign [.Name y py] (.ListComp elt [⟨tg, iter, ifs, 0⟩] scope pos) spos) (wSet n (wLc wi wg wt we (own.map (·.2)))) := by
  obtain ⟨ti, i1, i2⟩ := hi
  obtain ⟨g, g1, g2⟩ := hg
  obtain ⟨tt, t1, t2⟩ := ht
  obtain ⟨te, e1, e2⟩ := he
  exact ⟨_, fun i => ps_setLc (hc i) (hN i) (hy i) (hyl i) (hsw i) (i1 i) (ok i) (fun s H C cl fp => g1 (i, s, H, C, cl, fp)) (fun s H C cl fp => t1 (i, s, H, C, cl, fp)) (fun s H C cl fp => e1 (i, s, H, C, cl, fp)) (hs i),
    fun B F H σ δ M E D r hw l x => lc_run hns i2 g2 t2 e2 B F H σ δ _ E _ r hw.2 (fun v F1 H1 sd δ1 r1 s1 sr q => l.nx F1 H1 _ _ (r1.put sr q.1) q.2) (x σ)⟩
end
end DL
namespace DL
open PySem L2
open PyProof.Rows (envOfC)
def Fam.one (X : Cx) : Fam := ⟨Unit, fun _ => X, X.K, fun _ => rfl⟩
def backD : Dl → Dl → Option Dl
  | [], _ => some []
  | some (.p _) :: α, some (.p c) :: δ => (backD α δ).map (some (.p c) :: ·)
  | some (.p _) :: _, _ => none
  | x :: α, _ :: δ => (backD α δ).map (x :: ·)
  | _ :: _, [] => none
theorem backD_len : ∀ {α δ α' : Dl}, backD α δ = some α' → α'.length = α.length
  | [], _, _, h => by simp only [backD] at h; cases h; rfl
  | some (.p _) :: α, some (.p c) :: δ, _, h => by
    simp only [backD] at h
    cases e : backD α δ with
    | none => rw [e] at h; cases h
    | some β => rw [e] at h; cases h; simp [backD_len e]
  | some (.p _) :: α, none :: δ, _, h => by simp only [backD] at h; cases h
  | some (.p _) :: α, some (.d _) :: δ, _, h => by simp only [backD] at h; cases h
  | some (.p _) :: α, some (.o _) :: δ, _, h => by simp only [backD] at h; cases h
  | some (.p _) :: α, [], _, h => by simp only [backD] at h; cases h
  | none :: α, y :: δ, _, h => by
    simp only [backD] at h
    cases e : backD α δ with
    | none => rw [e] at h; cases h
    | some β => rw [e] at h; cases h; simp [backD_len e]
  | some (.d x) :: α, y :: δ, _, h => by
    simp only [backD] at h
    cases e : backD α δ with
    | none => rw [e] at h; cases h
    | some β => rw [e] at h; cases h; simp [backD_len e]
  | some (.o x) :: α, y :: δ, _, h => by
    simp only [backD] at h
    cases e : backD α δ with
    | none => rw [e] at h; cases h
    | some β => rw [e] at h; cases h; simp [backD_len e]
  | none :: α, [], _, h => by simp only [backD] at h; cases h
  | some (.d x) :: α, [], _, h => by simp only [backD] at h; cases h
  | some (.o x) :: α, [], _, h => by simp only [backD] at h; cases h
theorem backD_get : ∀ {α δ α' : Dl} {i : Nat} {sd : SD}, backD α δ = some α' → α'[i]? = some (some sd) → (∃ c, sd = .p c ∧ δ[i]? = some (some (.p c)) ∧ ∃ c0, α[i]? = some (some (.p c0))) ∨ ((∀ c, sd ≠ .p c) ∧ α[i]? = some (some sd))
  | [], _, _, _, _, h, e => by simp only [backD] at h; cases h; simp at e
  | some (.p c0) :: α, some (.p c) :: δ, _, i, sd, h, e => by
    simp only [backD] at h
    cases q : backD α δ with
    | none => rw [q] at h; cases h
    | some β =>
      rw [q] at h; cases h
      cases i with
      | zero => cases e; exact .inl ⟨c, rfl, rfl, c0, rfl⟩
      | succ i => exact backD_get (i := i) q e
  | some (.p _) :: α, none :: δ, _, _, _, h, _ => by simp only [backD] at h; cases h
  | some (.p _) :: α, some (.d _) :: δ, _, _, _, h, _ => by simp only [backD] at h; cases h
  | some (.p _) :: α, some (.o _) :: δ, _, _, _, h, _ => by simp only [backD] at h; cases h
  | some (.p _) :: α, [], _, _, _, h, _ => by simp only [backD] at h; cases h
  | none :: α, y :: δ, _, i, sd, h, e => by
    simp only [backD] at h
    cases q : backD α δ with
    | none => rw [q] at h; cases h
    | some β =>
      rw [q] at h; cases h
      cases i with
      | zero => cases e
      | succ i => exact backD_get (i := i) q e
  | some (.d x) :: α, y :: δ, _, i, sd, h, e => by
    simp only [backD] at h
    cases q : backD α δ with
    | none => rw [q] at h; cases h
    | some β =>
      rw [q] at h; cases h
      cases i with
      | zero => cases e; exact .inr ⟨fun c z => (nomatch z), rfl⟩
      | succ i => exact backD_get (i := i) q e
  | some (.o x) :: α, y :: δ, _, i, sd, h, e => by
    simp only [backD] at h
    cases q : backD α δ with
    | none => rw [q] at h; cases h
    | some β =>
      rw [q] at h; cases h
      cases i with
      | zero => cases e; exact .inr ⟨fun c z => (nomatch z), rfl⟩
      | succ i => exact backD_get (i := i) q e
  | none :: α, [], _, _, _, h, _ => by simp only [backD] at h; cases h
  | some (.d x) :: α, [], _, _, _, h, _ => by simp only [backD] at h; cases h
  | some (.o x) :: α, [], _, _, _, h, _ => by simp only [backD] at h; cases h
def startD (N : List Str) (α : Dl) : Dl := α ++ List.replicate (N.length - α.length) none
def finD (α : Dl) (Q : SD → Dl → Prop) : SD → Dl → Prop := fun sd δ => match backD α δ with
  | some α' => Q sd α'
  | none => False
def finE (α : Dl) (E : XQ) : XQ := fun C f x δ => match backD α δ with
  | some α' => E C f x α'
  | none => False
section
variable {K : PySem.W.Frag} {F H F' H' : Hp} {O : List Addr} {vs : List V} {α : Dl}
theorem RB.entry {B : Bs} (r : RB K B F H (vs.map some) α) {N : List Str} (hl : vs.length ≤ N.length) : RB K B F H (L2.start N vs) (startD N α) := by
  have la : α.length = vs.length := by rw [r.len, List.length_map]
  have gs : ∀ {i v}, (vs.map some)[i]? = some (some v) → (L2.start N vs)[i]? = some (some v) := fun {i v} e => by
    unfold L2.start
    rw [List.getElem?_append_left ((List.getElem?_eq_some_iff.mp e).1)]
    exact e
  have gs' : ∀ {i v}, (L2.start N vs)[i]? = some (some v) → (vs.map some)[i]? = some (some v) := fun {i v} e => by
    unfold L2.start at e
    by_cases q : i < (vs.map some).length
    · rwa [List.getElem?_append_left q] at e
    · rw [List.getElem?_append_right (by omega), List.getElem?_replicate] at e
      split at e <;> cases e
  have gd : ∀ {i sd}, (startD N α)[i]? = some (some sd) → α[i]? = some (some sd) := fun {i sd} e => by
    unfold startD at e
    by_cases q : i < α.length
    · rwa [List.getElem?_append_left q] at e
    · rw [List.getElem?_append_right (by omega), List.getElem?_replicate] at e
      split at e <;> cases e
  have io : ∀ {i}, isOwn (startD N α) i → isOwn α i := fun {i} ⟨c, e⟩ => ⟨c, e.imp gd gd⟩
  refine ⟨r.sub, ?_, fun i x e => let ⟨v, h1, h2⟩ := r.dat i x (gd e); ⟨v, gs h1, h2⟩, fun i c e => let ⟨v, h1, h2⟩ := r.own i c (gd e); ⟨v, gs h1, h2⟩, fun i c e => let ⟨v, h1, h2⟩ := r.par i c (gd e); ⟨v, gs h1, h2⟩,
    fun i j a h1 h2 h3 h4 => r.apt i j a (io h1) (io h2) (gs' h3) (gs' h4), r.f0, r.h0, r.hO, r.nw⟩
  unfold startD L2.start
  rw [List.length_append, List.length_append, List.length_replicate, List.length_replicate, List.length_map, la]
theorem RB.finish {σ : St} {δ α' : Dl} (r0 : RB K ⟨F, H, O, vs.map some⟩ F H (vs.map some) α) (no : ∀ (i : Nat) (c : Cn), α[i]? ≠ some (some (.o c))) (r : RB K ⟨F, H, O, vs.map some⟩ F' H' σ δ) (h : backD α δ = some α') : RB K ⟨F, H, O, vs.map some⟩ F' H' (vs.map some) α' := by
  have pp : ∀ {i : Nat} {c : Cn}, α'[i]? = some (some (.p c)) → δ[i]? = some (some (.p c)) := fun {i c} e => by
    rcases backD_get h e with ⟨c', e1, e2, _⟩ | ⟨e1, _⟩
    · cases e1; exact e2
    · exact absurd rfl (e1 c)
  have po : ∀ {i : Nat} {c : Cn}, α'[i]? = some (some (.o c)) → False := fun {i c} e => by
    rcases backD_get h e with ⟨c', e1, e2, _⟩ | ⟨_, e1⟩
    · cases e1
    · exact no i c e1
  have io : ∀ {i : Nat}, isOwn α' i → ∃ c, α'[i]? = some (some (.p c)) := fun {i} ⟨c, e⟩ => by
    rcases e with e | e
    · exact (po e).elim
    · exact ⟨c, e⟩
  refine ⟨r.sub, by rw [backD_len h]; exact r0.len, fun i x e => ?_, fun i c e => (po e).elim, fun i c e => ?_, fun i j a h1 h2 h3 h4 => ?_, r.f0, r.h0, r.hO, r.nw⟩
  · rcases backD_get h e with ⟨c', e1, e2, _⟩ | ⟨_, e1⟩
    · cases e1
    · obtain ⟨v, h1, h2⟩ := r0.dat i x e1
      exact ⟨v, h1, h2.mono r.f0⟩
  · obtain ⟨a, h1, h2, h3, h4⟩ := r.par i c (pp e)
    exact ⟨a, h4, h2, h3, h4⟩
  · obtain ⟨c, e1⟩ := io h1
    obtain ⟨c2, e2⟩ := io h2
    obtain ⟨a1, q1, _, _, q2⟩ := r.par i c (pp e1)
    obtain ⟨a2, q3, _, _, q4⟩ := r.par j c2 (pp e2)
    have z1 : a1 = a := by
      have : (some (some (V.ref a1)) : Option (Option V)) = some (some (V.ref a)) := q2.symm.trans h3
      cases this; rfl
    have z2 : a2 = a := by
      have : (some (some (V.ref a2)) : Option (Option V)) = some (some (V.ref a)) := q4.symm.trans h4
      cases this; rfl
    subst z1; subst z2
    exact r.apt i j _ ⟨c, .inr (pp e1)⟩ ⟨c2, .inr (pp e2)⟩ q1 q3
theorem SR.finish {σ : St} {δ α' : Dl} {v : V} (no : ∀ (i : Nat) (c : Cn), α[i]? ≠ some (some (.o c))) (hb : backD α δ = some α') (r' : RB K ⟨F, H, O, vs.map some⟩ F' H' (vs.map some) α') : ∀ {sd : SD}, SR K ⟨F, H, O, vs.map some⟩ H F' H' σ δ v sd → SR K ⟨F, H, O, vs.map some⟩ H F' H' (vs.map some) α' v sd
  | .d _, h => h
  | .p _, h => h.elim
  | .o _, ⟨a, e, o, n, b, z⟩ => by
    refine ⟨a, e, o, fun q => ?_, b, z⟩
    obtain ⟨i, ⟨c, q⟩, hs⟩ := q
    rcases q with q | q
    · rcases backD_get hb q with ⟨c', e1, e2, _⟩ | ⟨_, e1⟩
      · cases e1
      · exact no i c e1
    · obtain ⟨a1, q1, _, q3, _⟩ := r'.par i c q
      have z1 : a1 = a := by
        have : (some (some (V.ref a1)) : Option (Option V)) = some (some (V.ref a)) := q1.symm.trans hs
        cases this; rfl
      obtain ⟨_, _, u, q5⟩ := r'.hO a1 q3
      rw [z1] at q5
      have b' : H a = none := b
      have q5' : H a = some u := q5
      rw [b'] at q5'; cases q5'
end
section
variable {P : Program} {w : World} {K : PySem.W.Frag} {mg : Str → Option Value} {base : Heap}
end
end DL
namespace DL
open PySem L2
def tyName : D → Option String
  | .non => some "NoneType"
  | .bl _ => some "bool"
  | .int _ => some "int"
  | .str _ => some "str"
  | .lst _ => some "list"
  | .tup _ => some "tuple"
  | .dic _ => some "dict"
  | .dct _ => some "dict"
  | _ => none
section
variable {K : PySem.W.Frag} {F H : Hp} {v : V}
theorem PR.ty {d : D} {t : String} (s : Same F H) (r : PR K F H v d) (h : tyName d = some t) : TyX K H v (.type t) := by
  have fz : ∀ {a c}, OwnA K F H a c → tyName c.fz = some t → TyX K H (.ref a) (.type t) := fun {a c} ⟨_, ho, h2, h3⟩ e => by
    cases c with
    | l xs => obtain ⟨vs, rfl, _⟩ := h3.lst; cases e; exact .base (.lst h2)
    | k xs => obtain ⟨vs, rfl, _⟩ := h3.dK; cases e; exact .base (.dK h2)
    | t xs => obtain ⟨vs, rfl, _⟩ := h3.dT; cases e; exact .base (.dT h2)
    | ob C xs => cases e
  rcases r with r | ⟨a, c, rfl, rfl, o⟩
  · cases r with
    | non => cases h; exact .base .non
    | bl b => cases h; exact .base (.bl b)
    | int b => cases h; exact .base (.int b)
    | str b => cases h; exact .base (.str b)
    | lst h1 h2 => cases h; exact .base (.lst (s _ _ h1))
    | tup h1 h2 => cases h; exact .base (.tup (s _ _ h1))
    | dic h1 h2 => cases h; exact .base (.dK (s _ _ h1))
    | dct h1 h2 => cases h; exact .base (.dT (s _ _ h1))
    | obj h1 h2 => cases h
    | scr n h1 => cases h
    | vv v => cases h
    | exc h1 h2 => cases h
    | «at» h1 => cases h
  · exact fz o h
end
def isiD (T : String) (x : D) : Option Bool := match tyName x with
  | some t => kitB t T
  | none => none
def sIsi (T : String) : S1 := fun x Q => match isiD T x with
  | some b => Q (.d (.bl b))
  | none => False
section
variable {Φ : Fam} {W : WX} {e : Expr} {pos p p2 : Pos} {x : Str}
theorem de_isi {w : WO} (T : String) (ha : DO Φ W e w) (hm : ∀ i, (Φ.X i).mg "isinstance" = none) (hmx : ∀ i, (Φ.X i).mg x = none) (hv : bootBuiltins x = some (.type T)) (hg : ∀ i, Gl (Φ.X i) "isinstance" := by intro _; rfl) (hgx : ∀ i, Gl (Φ.X i) x := by intro _; rfl)
    (hi : bootBuiltins "isinstance" = some (.builtin "isinstance") := by decide +kernel) (hn : x ≠ "__name__" := by decide) (hd : (x == ("__debug__" : Str)) = false := by decide)
    (he : ∀ i, starEach [e, .Name x p2] (Φ.X i).env = (false, eval e (Φ.X i).env) :: starEach [.Name x p2] (Φ.X i).env := by intro _; rfl) (he2 : ∀ i, starEach [.Name x p2] (Φ.X i).env = (false, eval (.Name x p2) (Φ.X i).env) :: starEach [] (Φ.X i).env := by intro _; rfl)
    (hpl : ∀ i, (backTo pos (starEach [.Name x p2] (Φ.X i).env)).any (·.1) = false := by intro _; rfl) :
    DE Φ W (.Call (.Name "isinstance" p) [e, .Name x p2] [] pos) (wCall (sIsi T) w) := by
  obtain ⟨t, h1, h2⟩ := ha
  refine ⟨tCB (rIsi Φ.K) (tCons t (tCons (tC (.ty T)) tNil)), fun i => by
    have h := call_isi (X := Φ.X i)
    rw [Φ.hK i] at h
    exact pe_callB h (hg i) (hm i) hi (pa_cons (h1 i) (pa_cons (pe_bltn (v := .ty T) (hgx i) (hmx i) hv rfl hn hd) pa_nil (he2 i)) (he i)) (by decide) (by decide) (he i) (hpl i), fun B F H σ δ Q E Qh r hw pp xl => ?_⟩
  refine h2 B F H σ δ _ E _ r hw (fun v F1 H1 o δ1 r1 s1 v1 q => ?_) xl
  split at q
  · rename_i y ey
    have hx := r1.view v1 ey
    unfold sIsi at q
    split at q
    · rename_i b eb
      unfold isiD at eb
      split at eb
      · rename_i ty ety
        exact ⟨v, .ty T, .type ty, .type T, b, rfl, .ty T, hx.ty r1.sub ety, kit_ty eb, (pp.after s1).dat r1 (.bl b) q⟩
      · cases eb
    · exact q.elim
  · exact q.elim
end
def encD (d : D) : PyData := (toP d).getD .none
def leD : D → D → Bool := PySem.W.dataLe false encD
section
variable {X : Cx} {Φ : Fam}
def rSortD (K : PySem.W.Frag) : List V → Hp → VK → Prop := fun xs H Q => ∃ (a : Addr) (vs : List V) (F : Hp) (ds : List D), xs = [.ref a] ∧ H a = some (.lst vs) ∧ Same F H ∧ RepL K F vs ds ∧ (∀ d ∈ ds, ∃ p, toP d = some p ∧ p.depth ≤ 40) ∧
  PySem.W.AllAlike (ds.map encD) ∧ PySem.W.Sortable (ds.map encD) ∧ ∀ out p, RepL K F out (ds.mergeSort leD) → H p = none → Q (.ref p) (upd H p (.lst out))
theorem each_of {K : PySem.W.Frag} {F : Hp} : ∀ {vs : List V} {ds : List D} {us : List Value}, RepL K F vs ds → Vals vs us → PySem.W.EachIs (fun (u : Value) (d : D) => ∃ x : V, RelV x u ∧ Rep K F x d) us ds
  | _, _, _, .nil, .nil => .nil
  | _, _, _, .cons h r, .cons rv rr => .cons ⟨_, rv, h⟩ (each_of r rr)
theorem of_each {K : PySem.W.Frag} {F : Hp} : ∀ {us : List Value} {ds : List D}, PySem.W.EachIs (fun (u : Value) (d : D) => ∃ x : V, RelV x u ∧ Rep K F x d) us ds → ∃ vs, Vals vs us ∧ RepL K F vs ds
  | _, _, .nil => ⟨[], .nil, .nil⟩
  | _, _, .cons ⟨x, h1, h2⟩ t => by
    obtain ⟨vs, h3, h4⟩ := of_each t
    exact ⟨x :: vs, .cons h1 h3, .cons h2 h4⟩
theorem each_imp {α : Type} {R S : Value → α → Prop} : ∀ {us : List Value} {ds : List α}, PySem.W.EachIs R us ds → (∀ u d, d ∈ ds → R u d → S u d) → PySem.W.EachIs S us ds
  | _, _, .nil, _ => .nil
  | _, _, .cons h t, f => .cons (f _ _ List.mem_cons_self h) (each_imp t fun u d hd => f u d (List.mem_cons_of_mem _ hd))
theorem cr_sortD (hu : X.A.units + 64 < cLine) : CallR X (.builtin "sorted") (rSortD X.K) := by
  intro pins s σ H xs us Q I r h
  obtain ⟨a, vs, F, ds, rfl, ha, sub, reps, hp, hal, hso, q⟩ := h
  obtain ⟨its, rv, hl, hz⟩ := I.list (.of ha)
  rw [Vals.ref1 r]
  have e := each_of reps rv
  have er : PySem.W.EachIs (fun v b => ∃ as, Reads s.heap v (encD b) as) its ds := each_imp e fun u d hd ⟨x, h1, h2⟩ => by
    obtain ⟨p, e1, _⟩ := hp d hd
    obtain ⟨as, h3⟩ := Dp.reads I p x u (h2.dp sub e1) h1
    exact ⟨as, by unfold encD; rw [e1]; exact h3⟩
  refine PySem.W.sorted_data hl.isList e er hal hso (by rw [← reps.len]; exact hz) (fun b hb => ?_) fun out hlen eo => ?_
  · obtain ⟨p, e1, e2⟩ := hp b hb
    unfold encD
    rw [e1]
    show X.A.units + 2 + p.depth < cLine
    omega
  · obtain ⟨ws, h3, h4⟩ := of_each eo
    obtain ⟨ep, he'⟩ := PyProof.Rows.sortedAll_at s.heap its out.toArray
    have hlen2 : ws.length ≤ sizeLine := by rw [h3.length, hlen, ← reps.len]; exact hz
    refine ⟨.ref _, upd H (s.heap.objs.size + 1) (.lst ws), I.laid (t' := s.toks) (fun _ _ => PyProof.Rows.sortedAll_old) (Nat.le_succ _) ⟨hlen2, out, ep, h3, he'⟩, rfl, q ws _ h4 (I.hok.fresh (Nat.le_succ _))⟩
def sSorted : S1 := fun x Q => match x with
  | .lst ds => (∀ d ∈ ds, eqOk d = true) ∧ PySem.W.AllAlike (ds.map encD) ∧ PySem.W.Sortable (ds.map encD) ∧ Q (.o (.l (ds.mergeSort leD)))
  | _ => False
theorem cd_sorted (hu : ∀ i, (Φ.X i).A.units + 64 < cLine) : CallD Φ (.builtin "sorted") sSorted := by
  refine ⟨rSortD Φ.K, fun i => by have h := cr_sortD (hu i); rw [Φ.hK i] at h; exact h, fun B F H σ δ x v Q Qh r hx hs p => ?_⟩
  unfold sSorted at hs
  split at hs
  · rename_i ds
    obtain ⟨a, vs, rfl, h1, h2⟩ := hx.lst r.sub
    exact ⟨a, vs, F, ds, rfl, h1, r.sub, h2, fun d hd => eqOk_some (hs.1 d hd), hs.2.1, hs.2.2.1, fun out q h3 h4 => p.lst r h3 hs.2.2.2 q h4⟩
  · exact hs.elim
end
def MetD (Φ : Fam) (T id : String) (s : S2) : Prop :=
  ∃ r, (∀ i, MtR (Φ.X i) id r) ∧ ∀ (B : Bs) (F H : Hp) (σ : St) (δ : Dl) (x y : D) (v u : V) (Q : SD → Dl → Prop) (Qh : VK), RB Φ.K B F H σ δ → PR Φ.K F H v x → PR Φ.K F H u y → s x y (fun sd => Q sd δ) → Post Φ.K B σ δ F H Q Qh → r v [u] H Qh
def tyOk (T : String) : D → Prop
  | .str _ => T = "str"
  | .lst _ => T = "list"
  | .dic _ => T = "dict"
  | _ => False
def wMet (T : String) (s : S2) (wa wb : WO) : WE := fun δ Q E => wa δ (fun o δ1 => (∃ x, view δ1 o = some x ∧ tyOk T x) ∧ wb δ1 (fun o' δ2 => match view δ2 o, view δ2 o' with
  | some x, some y => s x y (fun sd => Q sd δ2)
  | _, _ => False) E) E
theorem PR.tyV {K : PySem.W.Frag} {F H : Hp} {v : V} {T : String} {x : D} (s : Same F H) (r : PR K F H v x) (h : tyOk T x) : L2.tyV K T v H := by
  cases x with
  | str z => obtain rfl := r.str; exact h
  | lst xs => obtain ⟨a, vs, rfl, h1, _⟩ := r.lst s; exact .inl ⟨h, vs, .of h1⟩
  | dic xs => obtain ⟨a, vs, rfl, h1, _⟩ := r.dic s; exact .inr (.inr (.inl ⟨h, .inl ⟨vs, h1⟩⟩))
  | _ => exact h.elim
section
variable {Φ : Fam} {W : WX} {o e : Expr} {cpos apos : Pos} {name : Str} {T id : String}
theorem de_met {s : S2} {wa wb : WO} (pa : PlainAttrs T) (slot : Slot T name id) (hty : typeOf (.builtin id) = pure (.type "method_descriptor")) (hm : MetD Φ T id s) (ho : DO Φ W o wa) (ha : DO Φ W e wb)
    (hbase : ∀ i, attributeBase o name (Φ.X i).env (eval o (Φ.X i).env) = eval o (Φ.X i).env := by intro _; rfl)
    (hfew : ∀ i, ((backTo cpos (starEach [e] (Φ.X i).env)).all (fun x => !x.1) && (backToKw cpos (keywordEach [] (Φ.X i).env)).all (fun x => x.1.isSome)
      && decide ([e].length + ([] : List Keyword).length + (if ([] : List Keyword).isEmpty then 0 else 1) < 30)) = true := by intro _; rfl)
    (hline : (apos.endLine == cpos.line) = true := by rfl) (hs : ∀ i, starEach [e] (Φ.X i).env = (false, eval e (Φ.X i).env) :: starEach [] (Φ.X i).env := by intro _; rfl) (hplain : ∀ i, (backTo cpos (starEach [] (Φ.X i).env)).any (·.1) = false := by intro _; rfl) :
    DE Φ W (.Call (.Attribute o name apos) [e] [] cpos) (wMet T s wa wb) := by
  obtain ⟨r, m1, m2⟩ := hm
  obtain ⟨to, o1, o2⟩ := ho
  obtain ⟨te, e1, e2⟩ := ha
  refine ⟨tBM Φ.K T r to (tCons te tNil), fun i => by
    have h := pe_bm (X := Φ.X i) (cpos := cpos) (apos := apos) pa slot hty (m1 i) (o1 i) (pa_cons (e1 i) pa_nil (hs i)) (hbase i) (hfew i) hline (hs i) (hplain i)
    rw [Φ.hK i] at h; exact h, fun B F H σ δ Q E Qh rb hw p xl => ?_⟩
  refine o2 B F H σ δ _ E _ rb hw (fun v F1 H1 op1 δ1 r1 s1 v1 q1 => ?_) xl
  obtain ⟨⟨x, ex, tx⟩, q1⟩ := q1
  refine ⟨(r1.view v1 ex).tyV r1.sub tx, ?_⟩
  refine e2 B F1 H1 σ δ1 _ E _ r1 q1 (fun u F2 H2 op2 δ2 r2 s2 v2 q2 => ?_) xl
  split at q2
  · rename_i x' y' e3 e4
    exact m2 B F2 H2 σ δ2 x' y' v u Q Qh r2 (r2.view (v1.step s2.f) e3) (r2.view v2 e4) q2 (p.after (s1.trans s2))
  · exact q2.elim
def sIndex : S2 := fun x y Q => match x, y with
  | .lst xs, .str z => match strs? xs with
    | some zs => z ∈ zs ∧ Q (.d (.int (zs.idxOf z : Nat)))
    | none => False
  | .lst xs, .int z => match ints? xs with
    | some zs => z ∈ zs ∧ Q (.d (.int (zs.idxOf z : Nat)))
    | none => False
  | _, _ => False
theorem idx_facts {α : Type} [DecidableEq α] {zs : List α} {z : α} (h : z ∈ zs) : zs[zs.idxOf z]? = some z ∧ ∀ (m : Nat) (y : α), m < zs.idxOf z → zs[m]? = some y → y ≠ z := by
  induction zs with
  | nil => cases h
  | cons a r ih =>
    by_cases e : a = z
    · subst e
      have e0 : (a :: r).idxOf a = 0 := List.idxOf_cons_self
      refine ⟨by rw [e0]; rfl, fun m y hm => ?_⟩
      rw [e0] at hm
      exact absurd hm (Nat.not_lt_zero m)
    · have hr : z ∈ r := by
        rcases List.mem_cons.mp h with q | q
        · exact absurd q.symm e
        · exact q
      obtain ⟨h1, h2⟩ := ih hr
      have ei : (a :: r).idxOf z = r.idxOf z + 1 := by
        rw [List.idxOf_cons, beq_eq_false_iff_ne.mpr e]
        rfl
      rw [ei]
      refine ⟨h1, fun m y hm hy => ?_⟩
      cases m with
      | zero => cases hy; exact e
      | succ m => exact h2 m y (by omega) hy
theorem flat_strs (zs : List Str) : (zs.map V.str).all flatV = true := by
  rw [List.all_eq_true]
  intro v hv
  obtain ⟨z, _, rfl⟩ := List.mem_map.mp hv
  rfl
theorem flat_ints (zs : List Int) : (zs.map V.int).all flatV = true := by
  rw [List.all_eq_true]
  intro v hv
  obtain ⟨z, _, rfl⟩ := List.mem_map.mp hv
  rfl
theorem md_index : MetD Φ "list" "list.index" sIndex := by
  refine ⟨rIndex Φ.K, fun i => by have h := mt_index (X := Φ.X i); rw [Φ.hK i] at h; exact h, fun B F H σ δ x y v u Q Qh r hx hy hs p => ?_⟩
  unfold sIndex at hs
  split at hs
  · split at hs
    · rename_i xs z _ zs e
      obtain rfl := strs?_of e
      obtain ⟨a, vs, rfl, h1, h2⟩ := hx.lst r.sub
      obtain rfl := h2.strs
      obtain rfl := hy.str
      obtain ⟨i1, i2⟩ := idx_facts hs.1
      refine ⟨a, _, _, zs.idxOf z, .str z, rfl, rfl, .of h1, rfl, flat_strs zs, by rw [List.getElem?_map, i1]; rfl, ?_, fun m z' hm hz => ?_, p.dat r (.int _) hs.2⟩
      · show (z == z) = true
        exact beq_self_eq_true z
      · rw [List.getElem?_map] at hz
        cases q : zs[m]? with
        | none => rw [q] at hz; cases hz
        | some y =>
          rw [q] at hz; cases hz
          show (y == z) = false
          exact beq_eq_false_iff_ne.mpr (i2 m y hm q)
    · exact hs.elim
  · split at hs
    · rename_i xs z _ zs e
      obtain rfl := ints?_of e
      obtain ⟨a, vs, rfl, h1, h2⟩ := hx.lst r.sub
      obtain rfl := h2.ints
      obtain rfl := hy.int
      obtain ⟨i1, i2⟩ := idx_facts hs.1
      refine ⟨a, _, _, zs.idxOf z, .int z, rfl, rfl, .of h1, rfl, flat_ints zs, by rw [List.getElem?_map, i1]; rfl, ?_, fun m z' hm hz => ?_, p.dat r (.int _) hs.2⟩
      · show (z == z) = true
        exact beq_self_eq_true z
      · rw [List.getElem?_map] at hz
        cases q : zs[m]? with
        | none => rw [q] at hz; cases hz
        | some y =>
          rw [q] at hz; cases hz
          show (y == z) = false
          exact beq_eq_false_iff_ne.mpr (i2 m y hm q)
    · exact hs.elim
  · exact hs.elim
def sJoin : S2 := fun x y Q => match x, y with
  | .str a, .lst xs => match strs? xs with
    | some zs => (zs.map (·.length)).sum + zs.length * a.length ≤ 16777216 ∧ Q (.d (.str (Txt.join a zs)))
    | none => False
  | _, _ => False
theorem md_join : MetD Φ "str" "str.join" sJoin := by
  refine ⟨_, fun i => by have h := mt_join (X := Φ.X i); rw [Φ.hK i] at h; exact h, fun B F H σ δ x y v u Q Qh r hx hy hs p => ?_⟩
  unfold sJoin at hs
  split at hs
  · split at hs
    · rename_i a xs _ zs e
      obtain rfl := strs?_of e
      obtain rfl := hx.str
      obtain ⟨l, vs, rfl, h1, h2⟩ := hy.lst r.sub
      obtain rfl := h2.strs
      exact ⟨a, l, zs, rfl, rfl, .inl (.of h1), hs.1, p.dat r (.str _) hs.2⟩
    · exact hs.elim
  · exact hs.elim
end
section
variable {Φ : Fam} {W : WX} {e : Expr} {pos cpos apos p2 : Pos} {x : Str}
def wApp (n : Nat) (w : WF) : WE := fun δ Q E => (∃ xs, ownOf δ n = some (.l xs)) ∧ w δ (fun y δ1 => match ownOf δ1 n with
  | some (.l xs) => xs.length < sizeLine ∧ Q (.d .non) (keepKind δ1 n (.l (xs ++ [y])))
  | _ => False) E
theorem de_app (n : Nat) {w : WF} (ha : DF Φ W e w) (hN : ∀ j, (Φ.X j).N[n]? = some x := by intro _; rfl) (hv : ∀ j, Vis (Φ.X j).env.scope x := by intro _; first | exact Or.inl rfl | exact Or.inr (Or.inl rfl) | exact Or.inr (Or.inr rfl)) (hd : (x == ("__debug__" : Str)) = false := by decide)
    (hcd : (x == ("__classdict__" : Str)) = false := by decide)
    (hbase : ∀ i, attributeBase (.Name x p2) "append" (Φ.X i).env (eval (.Name x p2) (Φ.X i).env) = eval (.Name x p2) (Φ.X i).env := by intro _; rfl)
    (hfew : ∀ i, ((backTo cpos (starEach [e] (Φ.X i).env)).all (fun x => !x.1) && (backToKw cpos (keywordEach [] (Φ.X i).env)).all (fun x => x.1.isSome)
      && decide ([e].length + ([] : List Keyword).length + (if ([] : List Keyword).isEmpty then 0 else 1) < 30)) = true := by intro _; rfl)
    (hline : (apos.endLine == cpos.line) = true := by rfl) (hs : ∀ i, starEach [e] (Φ.X i).env = (false, eval e (Φ.X i).env) :: starEach [] (Φ.X i).env := by intro _; rfl) (hplain : ∀ i, (backTo cpos (starEach [] (Φ.X i).env)).any (·.1) = false := by intro _; rfl) :
    DE Φ W (.Call (.Attribute (.Name x p2) "append" apos) [e] [] cpos) (wApp n w) := by
  obtain ⟨te, e1, e2⟩ := ha
  refine ⟨tBM Φ.K "list" rAppend (tVar n) (tCons te tNil), fun i => by
    have h := pe_bm (X := Φ.X i) (cpos := cpos) (apos := apos) PySem.F.plainAttrs_list PySem.F.slot_list_append PySem.F.type_list_append mt_append (pe_var (pos := p2) (hN i) (hv i) hd hcd) (pa_cons (e1 i) pa_nil (hs i)) (hbase i) (hfew i) hline (hs i) (hplain i)
    rw [Φ.hK i] at h; exact h, fun B F H σ δ Q E Qh rb hw p xl => ?_⟩
  obtain ⟨⟨xs0, h0⟩, hw⟩ := hw
  obtain ⟨a, ha, ⟨_, ho0, h02, h03⟩, _⟩ := ownOf_at rb h0
  obtain ⟨vs0, rfl, _⟩ := h03.lst
  refine ⟨_, ha, .inl ⟨rfl, vs0, .of h02⟩, ?_⟩
  refine e2 B F H σ δ _ E _ rb hw (fun u F1 H1 d δ1 r1 s1 rep q => ?_) xl
  split at q
  · rename_i xs h1
    obtain ⟨a', ha', ⟨f1, ho, h2, h3⟩, ow⟩ := ownOf_at r1 h1
    rw [ha] at ha'; cases ha'
    obtain ⟨vs, rfl, h4⟩ := h3.lst
    have r2 := r1.chg (c := .l (xs ++ [d])) (F' := F1) (H' := upd H1 a (.lst (vs ++ [u]))) h1 ha (.refl _) (fun b o e => by rw [upd_ne (ne_of_none e f1)]; exact r1.sub _ _ e) ⟨f1, _, upd_same, h4.app (.cons rep .nil)⟩ (fun b o e n => by rw [upd_ne n]; exact e) fun b o e => .inl ⟨o, e⟩
    exact ⟨a, vs, u, rfl, rfl, h2, by rw [h4.len]; exact q.1, p .non F1 _ (.d .non) _ r2.1 (s1.trans r2.2) .non q.2⟩
  · exact q.elim
def wPut (n : Nat) (we wi : WF) : WS := fun M E δ => we δ (fun y δ1 => (∃ c, ownOf δ1 n = some c) ∧ wi δ1 (fun i δ2 => match i with
  | .int i => match ownOf δ2 n with
    | some (.l xs) => match ixN xs.length i with
      | some j => M.nx (keepKind δ2 n (.l (xs.set j y)))
      | none => False
    | _ => False
  | _ => False) E) E
theorem ds_put (n : Nat) {i : Expr} {tpos : Pos} {we wi : WF} (he : DF Φ W e we) (hi : DF Φ W i wi) (hN : ∀ j, (Φ.X j).N[n]? = some x := by intro _; rfl) (hv : ∀ j, Vis (Φ.X j).env.scope x := by intro _; first | exact Or.inl rfl | exact Or.inr (Or.inl rfl) | exact Or.inr (Or.inr rfl)) (hd : (x == ("__debug__" : Str)) = false := by decide)
    (hcd : (x == ("__classdict__" : Str)) = false := by decide)
    (ha : ∀ k v, assign (.Subscript (.Name x p2) i tpos) (Φ.X k).env v = (do
      let ov ← holding [v] (eval (.Name x p2) (Φ.X k).env)
      let iv ← holding [v, ov] (eval i (Φ.X k).env)
      standAt tpos
      holding [v, ov, iv] (setItem ov iv v)
      release [v, ov, iv] []) := by intro _ _; rfl)
    (hs : ∀ k, swapsWithSole [.Subscript (.Name x p2) i tpos] e pos.line (Φ.X k).env = pure false := by intro _; rfl) (hw : ∀ k, swappedStores [.Subscript (.Name x p2) i tpos] e (Φ.X k).env = pure none := by intro _; rfl)
    (h1 : ∀ k, (assignEach [.Subscript (.Name x p2) i tpos] (Φ.X k).env).map (·.2) = [assign (.Subscript (.Name x p2) i tpos) (Φ.X k).env] := by intro _; rfl) :
    DS Φ W (.Assign [.Subscript (.Name x p2) i tpos] e pos) (wPut n we wi) := by
  obtain ⟨te, e1, e2⟩ := he
  obtain ⟨ti, i1, i2⟩ := hi
  refine ⟨tAsg te (gSub (tVar n) ti rSetL), fun k => ps_asg (e1 k) (pg_sub (pe_var (pos := p2) (hN k) (hv k) hd hcd) (i1 k) set_list (ha k)) (hs k) (hw k) (h1 k), fun B F H σ δ M E D r hw l xl => ?_⟩
  refine e2 B F H σ δ _ E _ r hw (fun v F1 H1 d δ1 r1 s1 rep q => ?_) (xl σ)
  have key : ∀ (hex : ∃ w, σ[n]? = some (some w)), gSub (tVar n) ti rSetL v σ H1 D.nx := fun ⟨w, hw⟩ => by
    refine ⟨w, hw, ?_⟩
    refine i2 B F1 H1 σ δ1 _ E _ r1 q.2 (fun u F2 H2 di δ2 r2 s2 repi q2 => ?_) (xl σ)
    split at q2
    · rename_i i
      cases repi
      split at q2
      · rename_i xs ho
        split at q2
        · rename_i j hj
          obtain ⟨a, ha, ⟨f1, hob, h2, h3⟩, ow⟩ := ownOf_at r2 ho
          rw [hw] at ha; cases ha
          obtain ⟨vs, rfl, h4⟩ := h3.lst
          have r3 := r2.chg (c := .l (xs.set j d)) (F' := F2) (H' := upd H2 a (.lst (vs.set j v))) ho hw (.refl _) (fun b o e => by rw [upd_ne (ne_of_none e f1)]; exact r2.sub _ _ e) ⟨f1, _, upd_same, RepL.set (rep.mono s2.f) j h4⟩ (fun b o e n => by rw [upd_ne n]; exact e) fun b o e => .inl ⟨o, e⟩
          exact ⟨a, vs, _, j, rfl, rfl, h2, by rw [h4.len]; exact hj, l.nx F2 _ σ _ r3.1 q2⟩
        · exact q2.elim
      · exact q2.elim
    · exact q2.elim
  obtain ⟨⟨c, hc⟩, _⟩ := id q
  obtain ⟨a, ha, _⟩ := ownOf_at r1 hc
  exact key ⟨_, ha⟩
end
end DL
namespace EX
open PySem PySem.W PySem.Calls PyProof.Rows PySem.HandSPX
def eA (f : Str) (p1 p2 p3 : Pos) : Arguments := { posonlyargs := [], args := [{ arg := "self", annotation := none, pos := p1 }, { arg := f, annotation := none, pos := p2 }], vararg := none, kwonlyargs := [], kw_defaults := [], kwarg := none, defaults := [.Constant .none 0 p3] }
def eB (f : Str) (q1 q2 q3 q4 q5 r1 r2 r3 r4 : Pos) : List Stmt := [.Expr (.Call (.Attribute (.Call (.Name "super" q1) [] [] q2) "__init__" q3) [.Name f q4] [] q5) q5, .Assign [.Attribute (.Name "self" r1) f r2] (.Name f r3) r4]
def eS (f : Str) : Scope := { kind := .function, names := [(PySem.Str.ofString "self", .local), (f, .local), (PySem.Str.ofString "__class__", .free), (PySem.Str.ofString "super", .globalImplicit)], isGenerator := false, isCoroutine := false, more := [] }
structure FldOk (f : Str) : Prop where
  n1 : (f == ("self" : Str)) = false
  n2 : (("self" : Str) == f) = false
  n3 : (("__class__" : Str) == f) = false
  n4 : (("super" : Str) == f) = false
  n5 : (f == ("__debug__" : Str)) = false
  n6 : (f == ("__class__" : Str)) = false
def SupCall (f : Str) (q1 q2 q3 q4 q5 : Pos) : Prop := ∃ pl : Sem Bool, ∀ env : Env,
  eval (.Call (.Attribute (.Call (.Name "super" q1) [] [] q2) "__init__" q3) [.Name f q4] [] q5) env = (do
    let ov ← attributeBase (.Call (.Name "super" q1) [] [] q2) "__init__" env (eval (.Call (.Name "super" q1) [] [] q2) env)
    standAt q3.atName
    let (g, first) ← holding [ov] (getMethod ov "__init__" pl)
    callWith q5 g first (backTo q5 (starEach [.Name f q4] env)) [])
def SwapsNot (f : Str) (q1 q2 q3 q4 q5 r1 r2 r3 r4 : Pos) : Prop :=
  (∀ env : Env, swapsWith (.Call (.Attribute (.Call (.Name "super" q1) [] [] q2) "__init__" q3) [.Name f q4] [] q5) none q5.line env = pure false) ∧
  (∀ env : Env, swapsWith (.Name f r3) (some (.Attribute (.Name "self" r1) f r2)) r4.line env = pure false)
structure ETxt (prog : Program) (K : Frag) (mg : Str → Option Value) (nm qi f : Str) (C fI : Addr) : Prop where
  ok : FldOk f
  gC : mg nm = some (.ref C)
  cls : ∃ nm' q N bs bm sn sub ab col dd k0 k1 k2 k3 k5, K.lookup C = some (excClassObj nm' q C N bs bm true sn sub ab col dd k0 k1 k2 k3 k5 "ValueError.__new__") ∧ refsVE bm = true
  ini : excInitIn K C veTail "ValueError.__new__" = true
  sa : findIn K (.ref C) "__setattr__" = some (some (.builtin "object.__setattr__"))
  ga : findIn K (.ref C) "__getattribute__" = some (some (.builtin "BaseException.__getattribute__"))
  gg : findIn K (.ref C) "__getattr__" = some none
  noN : findIn K (.ref C) f = some none
  iC : findIn K (.ref C) "__init__" = some (some (.ref fI))
  tC : typeIn K (.ref fI) = some (.type "function")
  kC : keepIn K (.ref C) = true
  exC : subIn K (.ref C) (.type "BaseException") = some true
  veC : subIn K (.ref C) (.type "ValueError") = some true
  tyC : typeIn K (.ref C) = some (.type "type")
  hdC : hasDictIn K C = true
  te : exmOne K (.ref C) (.ref C) = some true
  mro : mroIn K C (.ref C) = some true
  sup : ks_superIn K C C "__init__" = some (some (.builtin "ValueError.__init__"))
  any3 : nsIn K cStatics "thirdparty.any" = some none
  nsu : mg "super" = none
  fn : ∃ (oc : Value) (od : Option Addr) (doc pm dV kV : Value) (an : Option Addr) (cda cc : Addr) (ct : Value) (osl : Array (Option Value)) (p1 p2 p3 q1 q2 q3 q4 q5 r1 r2 r3 r4 : Pos),
    K.lookup fI = some ⟨oc, od, .func (fnX "__init__" qi (eA f p1 p2 p3) (eB f q1 q2 q3 q4 q5 r1 r2 r3 r4) (eS f) [("__class__", cc)] dV kV doc pm an (.ref cda) ct), osl⟩ ∧ codeIn K (.ref cda) qi = true ∧
    (∃ ccl cdd vs ccs, K.lookup cda = some ⟨ccl, cdd, .fields vs, ccs⟩ ∧ ∃ file tf, vs[2]? = some (.str file tf) ∧ ((prog.main.file : Str) == file) = true) ∧
    (∃ cl cld csl, K.lookup cc = some ⟨cl, cld, .cell (some (.ref C)), csl⟩) ∧
    SupCall f q1 q2 q3 q4 q5 ∧ SwapsNot f q1 q2 q3 q4 q5 r1 r2 r3 r4 ∧ L2.Binds K (fnX "__init__" qi (eA f p1 p2 p3) (eB f q1 q2 q3 q4 q5 r1 r2 r3 r4) (eS f) [("__class__", cc)] dV kV doc pm an (.ref cda) ct) [("self" : Str), f] []
  top : (prog.main.scope.names.lookup ("super" : Str)).isSome = false
theorem one_size (v : Value) : [v].length ≤ sizeLine := by
  rw [sizeLine_eq]
  exact (by decide : 1 ≤ 16777216)
structure EEnd (h h' : Heap) (x C dx : Addr) (f : Str) (v : Value) : Prop where
  keep : ∀ b o, b ≠ x → h.get? b = some o → h'.get? b = some o
  obj : ∃ t, h'.get? x = some { cls := .ref C, dict := some dx, data := .fields #[.ref t, .none, .none, .none, .bool false, .none] }
  dbig : h.objs.size ≤ dx
  dne : dx ≠ x
  ns : h'.Ns1 dx (fun y => if y = f then some v else none)
theorem lk_f {f : Str} (ok : FldOk f) : (eS f).names.lookup f = some .local := by
  show List.lookup f [(PySem.Str.ofString "self", NameKind.local), (f, .local), (PySem.Str.ofString "__class__", .free), (PySem.Str.ofString "super", .globalImplicit)] = _
  have h : (f == PySem.Str.ofString "self") = false := ok.n1
  simp only [List.lookup, h, beq_self_eq_true]
theorem lk_class {f : Str} (ok : FldOk f) : (eS f).names.lookup ("__class__" : Str) = some .free := by
  show List.lookup (PySem.Str.ofString "__class__") [(PySem.Str.ofString "self", NameKind.local), (f, .local), (PySem.Str.ofString "__class__", .free), (PySem.Str.ofString "super", .globalImplicit)] = _
  have h : (PySem.Str.ofString "__class__" == f) = false := ok.n3
  have h2 : (PySem.Str.ofString "__class__" == PySem.Str.ofString "self") = false := by decide +kernel
  simp only [List.lookup, h, h2, beq_self_eq_true]
theorem lk_super {f : Str} (ok : FldOk f) : (eS f).names.lookup ("super" : Str) = some .globalImplicit := by
  show List.lookup (PySem.Str.ofString "super") [(PySem.Str.ofString "self", NameKind.local), (f, .local), (PySem.Str.ofString "__class__", .free), (PySem.Str.ofString "super", .globalImplicit)] = _
  have h : (PySem.Str.ofString "super" == f) = false := ok.n4
  have h2 : (PySem.Str.ofString "super" == PySem.Str.ofString "self") = false := by decide +kernel
  have h3 : (PySem.Str.ofString "super" == PySem.Str.ofString "__class__") = false := by decide +kernel
  simp only [List.lookup, h, h2, h3, beq_self_eq_true]
section
variable {prog : Program} {w : World} {A : Around} {E : Value → Shared → Prop} {R : Result → Shared → Prop} {s : Shared} {K : Frag} {mg mb : Str → Option Value} {nm qi f : Str} {C fI : Addr}
theorem e_init (T : ETxt prog K mg nm qi f C fI) {x t0 : Addr} {v : Value} (X : K.In s.heap) (hlim : s.heap.NoLimit) (hg : s.heap.Ns mainGlobals mg) (hb : s.heap.Ns builtinsNs mb) (hsup : mb "super" = some (.type "super")) (hx : s.heap.get? x = some (HandSPX.excO C t0)) (hnx : K.lookup x = none) (hroom : A.depth < recursionLimit)
    {args : Args} (hbind : ∀ fd : FuncData, K.lookup fI ≠ none → (∃ o, K.lookup fI = some o ∧ o.data = .func fd) → BindsTo s fd args [("self", .ref x), (f, v)])
    (hq : ∀ h' tk dx, EEnd s.heap h' x C dx f v → R (.ok (.ret .none)) { s with heap := h', toks := tk }) :
    codeAny (model prog w) A (.call (.ref fI) args) R s := by
  obtain ⟨oc, od, doc, pm, dV, kV, an, cda, cc, ct, osl, p1, p2, p3, q1, q2, q3, q4, q5, r1, r2, r3, r4, ho, hcd, ⟨ccl, cdd, cvs, ccs, hcode, file, tf, hvs, hfile⟩, ⟨cl, cld, csl, hcell⟩, ⟨pl, hsc⟩, ⟨hs1, hs2⟩, _⟩ := T.fn
  obtain ⟨nm', qn, N, bs, bm, sn, sub, ab, col, dd, k0, k1, k2, k3, k5, hC, hbm⟩ := T.cls
  have ok := T.ok
  have hcl : clsIn K C = some { name := nm', bases := bs, mro := .ref C :: bm, ns := N, qualname := qn, hasDict := true, slotNames := sn, subclasses := sub, abstract := ab, collection := col, hasDel := false } := by unfold clsIn; rw [hC] <;> rfl
  refine ks_codeAny_call_defAt (binds := [("self", .ref x), (f, v)]) hroom (X _ _ ho) rfl hlim (codeRec_of X hcd) rfl (hbind _ (by rw [ho]; exact fun z => nomatch z) ⟨_, ho, rfl⟩) ?c1 ?c2 (fun h₁ hns hk => ?_) rfl rfl rfl
  case c1 =>
    intro y hy
    have hy' : y ∈ (eS f).names := hy
    simp only [eS, List.mem_cons, List.not_mem_nil, or_false] at hy'
    rcases hy' with rfl | rfl | rfl | rfl <;> exact fun z => nomatch z
  case c2 =>
    intro y hy
    rcases List.mem_cons.mp hy with rfl | hy
    · rfl
    · rcases List.mem_cons.mp hy with rfl | hy
      · exact lk_f ok
      · cases hy
  have X₁ : K.In h₁ := X.keeps hk
  have hx₁ := hk _ _ hx
  have hg₁ := hg.keeps hk
  have hb₁ := hb.keeps hk
  have hself : (fun y => List.lookup y ([("self", .ref x), (f, v)] : List (Str × Value)).reverse) "self" = some (Value.ref x) := by
    show List.lookup ("self" : Str) [(f, v), ("self", Value.ref x)] = _
    simp only [List.lookup, ok.n2]
    rfl
  have hfv : (fun y => List.lookup y ([("self", .ref x), (f, v)] : List (Str × Value)).reverse) f = some v := by
    show List.lookup f [(f, v), ("self", Value.ref x)] = _
    simp only [List.lookup, beq_self_eq_true]
  have xL : s.heap.objs.size ≠ x := Nat.ne_of_gt (Heap.lt_size hx)
  have hroom2 := hroom
  obtain ⟨hp, g, dr, tk, os⟩ := s
  have hC₁ : h₁.get? C = some (excClassObj nm' qn C N bs bm true sn sub ab col dd k0 k1 k2 k3 k5 "ValueError.__new__") := X₁ _ _ hC
  have I₁ : InstAt h₁ x (HandSPX.excO C t0) C none := ⟨hx₁, rfl, rfl, trivial⟩
  refine ks_wpAt_execs_cons (ks_wpAt_Expr_any (ks_wpAt_MethodCall (ks_wpAt_super_base (lk_super ok) (lk_class ok) rfl rfl (X₁ _ _ ho) rfl rfl rfl (X₁ _ _ hcode) rfl hvs hfile T.top ?_) (hsc _)) ?_ ?_)
  · refine ks_loadName_global rfl (lk_super ok) (loadGlobal_builtin hg₁ T.nsu hb₁ hsup ⟨rfl, ?_⟩)
    refine wpAny_loadName_free rfl (lk_class ok) rfl ⟨_, X₁ _ _ hcell, rfl⟩ ?_
    refine wpAny_loadName_local rfl rfl hns hself ?_
    refine ks_wpAny_isType_cls hC₁ rfl ⟨rfl, ?_⟩
    refine ks_wpAny_call_super hC₁ rfl hx₁ rfl (fun c e => nomatch e) (looks_mroIn X₁ T.mro) (fun h₂ e₂ k₂ => ?_)
    -- the bound __init__
    have X₂ : K.In h₂ := X₁.keeps k₂
    have I₂ : InstAt h₂ x (HandSPX.excO C t0) C none := ⟨k₂ _ _ hx₁, rfl, rfl, trivial⟩
    have hm := T.sup
    unfold ks_superIn at hm
    rw [hcl] at hm
    have xn : (hideAll hp [x]).get? x = none := hideAll_none _ List.mem_cons_self
    have gk : ∀ b o, (hideAll hp [x]).get? b = some o → hp.get? b = some o := fun b o e => of_hideAll _ e
    have kg : ∀ b o, b ≠ x → hp.get? b = some o → (hideAll hp [x]).get? b = some o := fun b o n e => hideAll_get _ e (by simpa using n)
    have Fr₁ : Fr (hideAll hp [x]) hp.objs.size h₁ _ := ⟨hns, fun b o e => hk b o (gk b o e), Nat.le_of_eq (hideAll_size _ _)⟩
    have Nw₁ : News (hideAll hp [x]) hp.objs.size h₁ [(x, HandSPX.excO C t0)] := fun p hp' => by
      rcases List.mem_cons.mp hp' with rfl | z
      · exact ⟨hx₁, Ne.symm xL, xn⟩
      · cases z
    obtain ⟨Fr₂, Nw₂, lt₂⟩ := ks_newsPush (s := ⟨h₁, g, dr, tk, os⟩) (o := ks_superObj C x C) Fr₁ Nw₁ rfl e₂ k₂
    have XG : K.In (hideAll hp [x]) := fun a o e => kg a o (fun z => by rw [z, hnx] at e; cases e) (X a o e)
    refine kxs_method kxs_ValueError Fr₂ XG Nw₂ List.mem_cons_self I₂ T.any3 T.sup T.veC rfl (fun q h₃ Fr₃ Nw₃ lt₃ => ?_)
    refine kxs_callWith1 (i := "ValueError.__init__") (x := x) Nw₃ List.mem_cons_self (spliced_more (wpAny_Name (wpAny_loadName_local rfl (lk_f ok) Fr₃.ns hfv (args_nil ⟨kxs_at Nw₃ List.mem_cons_self, ?_⟩)) ok.n5))
    refine kxs_call Fr₃ XG Nw₃ F.excBase_ValueError T.ini List.mem_cons_self (.tail ?_ (.tail ?_ (.head fun _ z => nomatch z))) (one_size v) (fun t' h₄ Fr₄ Nw₄ lt₄ => ?_)
    · exact Ne.symm (Nat.ne_of_lt (lt₃ _ (List.mem_cons_of_mem _ List.mem_cons_self)))
    · exact Ne.symm (Nat.ne_of_lt (lt₂ _ List.mem_cons_self))
    · have X₄ : K.In h₄ := XG.keeps Fr₄.keep
      have hx₄ : h₄.get? x = some (HandSPX.excO C t') := (Nw₄ (x, HandSPX.excO C t') (List.mem_cons_of_mem _ (List.mem_cons_of_mem _ (List.mem_cons_of_mem _ List.mem_cons_self)))).1
      refine wpAt_of_wpAny (wpAny_execs_cons (plainObj_wpAny_Assign_Attribute ?_ ?_))
      · refine wpAny_Name (wpAny_loadName_local rfl (lk_f ok) Fr₄.ns hfv (wpAny_Name (wpAny_loadName_local rfl rfl Fr₄.ns hself ?_) rfl)) ok.n5
        refine set_plain X₄ (ox := HandSPX.excO C t') (od := none) ⟨hx₄, rfl, rfl, trivial⟩ T.sa ?_
        refine exc_osa X₄ hx₄ hcl (show refsVE (.ref C :: bm) = true from hbm) rfl T.noN (fun h₅ tk₅ dx k₅ dn dne hx₅ hn₅ => ?_)
        refine wpAny_execs_nil (hq h₅ tk₅ dx ⟨fun b o hb e => k₅ b o hb (Fr₄.keep _ _ (kg b o hb e)), ⟨_, hx₅⟩, ?_, dne, hn₅⟩)
        have z := Fr₄.ns.lt
        exact Nat.le_of_lt (Nat.lt_of_lt_of_le z dn)
      · exact hs2 _
  · rfl
  · exact hs1 _
end
end EX
namespace EX
open PySem PySem.W PySem.Calls PyProof.Rows PySem.HandSPX
structure EMade (h h' : Heap) (e C d : Addr) (f : Str) (v : Value) : Prop where
  keep : ∀ b o, h.get? b = some o → h'.get? b = some o
  new : h.objs.size ≤ e
  obj : ∃ t, h'.get? e = some { cls := .ref C, dict := some d, data := .fields #[.ref t, .none, .none, .none, .bool false, .none] }
  dbig : h.objs.size ≤ d
  dne : d ≠ e
  ns : h'.Ns1 d (fun y => if y = f then some v else none)
section
variable {prog : Program} {w : World} {A : Around} {E : Value → Shared → Prop} {R : Result → Shared → Prop} {s : Shared} {K : Frag} {mg mb : Str → Option Value} {nm qi f : Str} {C fI : Addr}
theorem e_made (T : ETxt prog K mg nm qi f C fI) {v : Value} (X : K.In s.heap) (hlim : s.heap.NoLimit) (hg : s.heap.Ns mainGlobals mg) (hb : s.heap.Ns builtinsNs mb) (hsup : mb "super" = some (.type "super")) (hroom : A.depth + 1 < recursionLimit)
    (hq : ∀ h' tk e d, EMade s.heap h' e C d f v → R (.ok (.ret (.ref e))) { s with heap := h', toks := tk }) :
    codeAny (model prog w) A (.call (.ref C) ⟨[v], []⟩) R s := by
  obtain ⟨nm', qn, N, bs, bm, sn, sub, ab, col, dd, k0, k1, k2, k3, k5, hC, hbm⟩ := T.cls
  obtain ⟨hp, g, dr, tk, os⟩ := s
  have up : ∀ b o, hp.get? b = some o → ((hp.push (kdv_tup [v])).push (excO C hp.objs.size)).get? b = some o := fun b o e => Heap.get?_push_of_some _ (Heap.get?_push_of_some _ e)
  have there : ((hp.push (kdv_tup [v])).push (excO C hp.objs.size)).get? (hp.objs.size + 1) = some (excO C hp.objs.size) := by heap_get
  have free : K.lookup (hp.objs.size + 1) = none := by
    cases e : K.lookup (hp.objs.size + 1) with
    | none => rfl
    | some o =>
      have z : hp.get? (hp.objs.size + 1) = some o := X _ _ e
      exact absurd (Nat.lt_of_succ_lt (Heap.lt_size z)) (Nat.lt_irrefl _)
  refine call_own F.excBase_ValueError (fun X => refsVE_contains X bm hbm) (X _ _ hC) (looks_findIn X T.iC) (fun self => bind_fn X self T.tC) (one_size v) ?_
  refine e_init (s := ⟨(hp.push (kdv_tup [v])).push (excO C hp.objs.size), g, dr, tk, os⟩) (v := v) (x := hp.objs.size + 1) (t0 := hp.objs.size) T (X.keeps up) (hlim.keeps up) (hg.keeps up) (hb.keeps up) hsup there free hroom (fun fd _ hfd => ?_) fun h' tk' dx ⟨kp, ⟨t, hx⟩, dn, dne, hns⟩ => ?_
  · obtain ⟨oc, od, doc, pm, dV, kV, an, cda, cc, ct, osl, p1, p2, p3, q1, q2, q3, q4, q5, r1, r2, r3, r4, ho, _, _, _, _, _, hbi⟩ := T.fn
    obtain ⟨o, h1, h2⟩ := hfd
    rw [ho] at h1
    cases h1
    cases h2
    exact hbi _ [.ref (hp.objs.size + 1), v] (X.keeps up) rfl
  · have z : hp.objs.size + 1 + 1 ≤ dx := by
      first
        | (simpa only [Heap.size_push] using dn)
        | exact dn
    exact ⟨rfl, hq h' tk' (hp.objs.size + 1) dx ⟨fun b o e => kp b o (Nat.ne_of_lt (Nat.lt_succ_of_lt (Heap.lt_size e))) (up b o e), Nat.le_succ _, ⟨t, hx⟩, Nat.le_trans (Nat.le_trans (Nat.le_succ _) (Nat.le_succ _)) z, dne, hns⟩⟩
end
end EX
namespace DL
open PySem L2
open PyProof.Rows (envOfC)
open EX (ETxt EMade e_made)
theorem rel_one {f : Str} {v : V} {u : Value} (r : RelV v u) (y : Str) : RelO (List.lookup y [(f, v)]) (if y = f then some u else none) := by
  by_cases h : y = f
  · subst h
    rw [if_pos rfl, show List.lookup y [(y, v)] = some v by simp [List.lookup]]
    exact r
  · have h2 : (y == f) = false := by simpa using h
    rw [if_neg h, show List.lookup y [(f, v)] = none by simp [List.lookup, h2]]
    trivial
section
variable {X : Cx} {nm qi f : Str} {C fI : Addr}
def tErr (C : Addr) (f : Str) (ta : TA) : St → Hp → XK → Prop := fun σ H Q => ta σ H fun vs H1 => ∃ v, vs = [v] ∧ ∀ d, H1 d = none → Q (.ref C) (some d) (upd H1 d (.xd [(f, v)]))
theorem pmk_err {a : Expr} {ta : TA} {p pos : Pos} {k : Nat} (T : ETxt X.prog X.K X.mg nm qi f C fI) (hr : Room k X.A) (ha : PA X [a] ta) (hg : Gl X nm) (hdb : (nm == ("__debug__" : Str)) = false)
    (he : starEach (a :: []) X.env = (false, eval a X.env) :: starEach [] X.env) (hpl : (backTo pos (starEach [] X.env)).any (·.1) = false) :
    PMk X (.Call (.Name nm p) [a] [] pos) (tErr C f ta) := fun pins s σ H Q I h => by
  refine wpAny_Call_Name_kw (ld_glob I hg T.gC ?_ hdb)
  refine PySem.W.callWith_K (h₀ := X.base) I.ok.mod.kin T.kC (thn (ha.run pos pins s σ H _ I h) fun us s1 hh => ?_) he hpl
  obtain ⟨vs, H1, I1, r1, v, ev, q1⟩ := hh
  subst ev
  refine ⟨I1.kIn, ?_⟩
  cases r1 with
  | cons rv rn =>
    rename_i v' us'
    cases rn
    show wpAny _ _ (call (.ref C) [v']) _ _ _
    have hlim := I1.nolimit
    obtain ⟨mb, hb1, hb2⟩ := I1.mod.blt
    have hg' := I1.mod.glob.keeps I1.bk
    have hb' := hb1.keeps I1.bk
    have hsup : mb "super" = some (.type "super") := (hb2 _ (by decide)).trans (by decide +kernel)
    obtain ⟨hp, g, dr, tk, os⟩ := s1
    refine wpAny_call (e_made T I1.kIn hlim hg' hb' hsup (by have := hr.dp; omega) fun h' tk' e d M => ?_)
    show MkP X pins σ Q (.ref e) ⟨h', g, dr, tk', os⟩
    obtain ⟨t, hoe⟩ := M.obj
    have hns := M.ns
    have hex : (PySem.W.hideAll h' [e]).get? e = none := PySem.W.hideAll_none _ List.mem_cons_self
    have hgo : ∀ b o, b ≠ e → h'.get? b = some o → (PySem.W.hideAll h' [e]).get? b = some o := fun b o n q => PySem.W.hideAll_get _ q (by simpa using n)
    have hbk : ∀ b o, (PySem.W.hideAll h' [e]).get? b = some o → h'.get? b = some o := fun b o q => PySem.W.of_hideAll _ q
    have old : ∀ b o, hp.get? b = some o → (PySem.W.hideAll h' [e]).get? b = some o := fun b o q => hgo b o (Nat.ne_of_lt (Nat.lt_of_lt_of_le (Heap.lt_size q) M.new)) (M.keep b o q)
    have ob : ObjOk X.prog X.w (upd H1 d (.xd [(f, v)])) (PySem.W.hideAll h' [e]) d (.xd [(f, v)]) := ⟨_, hns.at (fun o q => hgo d o M.dne q), fun y => rel_one rv y⟩
    have J : Inv X pins σ (upd H1 d (.xd [(f, v)])) ⟨PySem.W.hideAll h' [e], g, dr, tk', os⟩ := I1.laid (t' := tk') old M.dbig ob
    refine ⟨e, _, _, ⟨PySem.W.hideAll h' [e], g, dr, tk', os⟩, _, .ref C, some d, rfl, J, hbk, hex, hoe, ⟨rfl, rfl⟩, rfl, rfl, ?_, rfl, I1.bare, raises_own T.exC T.tyC, q1 d (I1.hok.fresh M.dbig)⟩
    rw [upd_ne (Ne.symm M.dne)]
    exact I1.hok.fresh M.new
end
section
variable {Φ : Fam} {W : WX} {nm qi f : Str} {C fI : Addr} {k : Nat} {a : Expr} {p pos pos2 : Pos}
def wRaise (C : Addr) (f : Str) (w : WL) : WS := fun _ E δ => w δ (fun xs δ' => match xs with
  | [x] => E C f x δ'
  | _ => False) E
end
end DL
namespace DL
open PySem L2
def inSlot (i : Nat) (D : Ends) : Ends := { nx := fun σ H => D.nx (σ.set i none) H, rt := D.rt, bk := fun σ H => D.bk (σ.set i none) H, ct := fun σ H => D.ct (σ.set i none) H }
abbrev Cl := Value × Nat × (Addr → Value → Option Addr → TS)
def wCls (K : PySem.W.Frag) (Wout : WX) (D : Ends) : List Cl → WX
  | [] => Wout
  | (c, i, ts) :: r => fun cls d σ H => ∃ b, PySem.W.exmOne K cls c = some b ∧ (b = true → ∀ a, H a = none → ts a cls d (inSlot i D) (σ.set i (some (.ref a))) H) ∧ (b = false → wCls K Wout D r cls d σ H)
inductive ClsOk (X : Cx) : List ExceptHandler → List Cl → Prop
  | nil : ClsOk X [] []
  | cons {x n : Str} {c : Value} {i : Nat} {ts : Addr → Value → Option Addr → TS} {b₀ : Stmt} {suite : List Stmt} {np pos' : Pos} {hds : List ExceptHandler} {l : List Cl} (hc : Names X x c) (hi : X.N[i]? = some n) (hl : X.env.kindOf n = some .local)
      (hsu : ∀ (a : Addr) (oe : Obj) (cls : Value) (d : Option Addr) (pn : List (Addr × Obj)), (Zc cls d oe ∧ ∃ vs, oe.data = .fields vs) → PSs (X.suite a ((a, oe) :: pn)) (b₀ :: suite) (ts a cls d)) (r : ClsOk X hds l) :
      ClsOk X (.ExceptHandler (some (.Name x np)) (some n) (b₀ :: suite) pos' :: hds) ((c, i, ts) :: l)
section
variable {X : Cx} {body : List Stmt} {hd0 : ExceptHandler} {hds : List ExceptHandler} {l : List Cl} {pos : Pos} {tb : WX → TS} {Wout : WX}
end
end DL
namespace DL
open PySem L2
def Fam.suite (Φ : Fam) (a : Addr) (cls : Value) (d : Option Addr) : Fam where
  ι := { q : Φ.ι × Obj × List (Addr × Obj) // Zc cls d q.2.1 ∧ ∃ vs, q.2.1.data = .fields vs }
  X := fun q => (Φ.X q.1.1).suite a ((a, q.1.2.1) :: q.1.2.2)
  K := Φ.K
  hK := fun q => Φ.hK q.1.1
abbrev ClD := Value × Nat × (Addr → Value → Option Addr → WS)
def outSlot (i : Nat) (M : WEnds) : WEnds := { nx := fun δ => M.nx (δ.set i none), rt := M.rt, bk := fun δ => M.bk (δ.set i none), ct := fun δ => M.ct (δ.set i none) }
def wClsD (K : PySem.W.Frag) (M : WEnds) (E : XQ) : List ClD → XQ
  | [] => E
  | (c, i, ws) :: r => fun C f x δ => ∃ b, PySem.W.exmOne K (.ref C) c = some b ∧ (b = true → i < δ.length ∧ ∀ a dd, ws a (.ref C) (some dd) (outSlot i M) E00 (δ.set i (some (.d (.exc a C dd f x))))) ∧ (b = false → wClsD K M E r C f x δ)
inductive ClsD (Φ : Fam) : List ExceptHandler → List ClD → Prop
  | nil : ClsD Φ [] []
  | cons {x n : Str} {c : Value} {ws : Addr → Value → Option Addr → WS} {b₀ : Stmt} {suite : List Stmt} {np pos' : Pos} {hds : List ExceptHandler} {l : List ClD} (i : Nat) (hc : ∀ j, Names (Φ.X j) x c)
      (hsu : ∀ (a : Addr) (cls : Value) (d : Option Addr), DSs (Φ.suite a cls d) W0 (b₀ :: suite) (ws a cls d)) (r : ClsD Φ hds l) (hi : ∀ j, (Φ.X j).N[i]? = some n := by intro _; rfl) (hl : ∀ j, (Φ.X j).env.kindOf n = some .local := by intro _; rfl) :
      ClsD Φ (.ExceptHandler (some (.Name x np)) (some n) (b₀ :: suite) pos' :: hds) ((c, i, ws) :: l)
section
variable {Φ : Fam} {W : WX} {body : List Stmt} {hd0 : ExceptHandler} {hds : List ExceptHandler} {l : List ClD} {pos : Pos} {wb : WS}
theorem RB.gone {K : PySem.W.Frag} {B : Bs} {F H : Hp} {σ : St} {δ : Dl} (r : RB K B F H σ δ) (i : Nat) : RB K B F H (σ.set i none) (δ.set i none) := r.wipe [i]
theorem ClsD.run {hs : List ExceptHandler} {l : List ClD} (h : ClsD Φ hs l) : ∃ l' : List Cl, (∀ j, ClsOk (Φ.X j) hs l') ∧ ∀ (B : Bs) (M : WEnds) (E : XQ) (D : Ends), LK Φ.K B M D → (∀ σ', XL Φ.K B W σ' E) → ∀ σ', XL Φ.K B (wCls Φ.K W D l') σ' (wClsD Φ.K M E l) := by
  induction h with
  | nil => exact ⟨[], fun _ => .nil, fun B M E D lk xl => xl⟩
  | @cons x n c ws b₀ suite np pos' hds l i hc hsu r hi hl ih =>
    obtain ⟨l', h1, h2⟩ := ih
    refine ⟨(c, i, fun a cls d => Classical.choose (hsu a cls d)) :: l', fun j => .cons (hc j) (hi j) (hl j) (fun a oe cls d pn hz => (Classical.choose_spec (hsu a cls d)).1 ⟨(j, oe, pn), hz⟩) (h1 j), fun B M E D lk xl σ F' H' δ' C dd f v y r' hd hb rep q => ?_⟩
    obtain ⟨b, hb1, hyes, hno⟩ := q
    refine ⟨b, hb1, fun e a ha => ?_, fun e => h2 B M E D lk xl σ F' H' δ' C dd f v y r' hd hb rep (hno e)⟩
    obtain ⟨hi', hws⟩ := hyes e
    have now : ¬ Ow σ δ' dd := fun z => by
      obtain ⟨j, ⟨c', e'⟩, hs⟩ := z
      rcases e' with e' | e'
      · obtain ⟨a1, g1, ⟨_, u, g2, g3⟩, _⟩ := r'.own j c' e'
        rw [hs] at g1; cases g1
        rw [hd] at g2; cases g2
        cases c' <;> exact g3.elim
      · obtain ⟨a1, g1, ⟨_, u, g2, g3⟩, _⟩ := r'.par j c' e'
        rw [hs] at g1; cases g1
        rw [hd] at g2; cases g2
        cases c' <;> exact g3.elim
    obtain ⟨F2, r2, s2, e2⟩ : ∃ F2, RB Φ.K B F2 H' σ δ' ∧ Same F' F2 ∧ F2 dd = some (.xd [(f, v)]) := by
      cases z : F' dd with
      | some o =>
        have := r'.sub _ _ z
        rw [hd] at this; cases this
        exact ⟨F', r', .refl _, z⟩
      | none => exact ⟨_, r'.freeze hd z now hb, fun b o e => by rw [upd_ne (ne_of_none e z)]; exact e, upd_same⟩
    have r3 : RB Φ.K B F2 H' (σ.set i (some (.ref a))) (δ'.set i (some (.d (.exc a C dd f y)))) := r2.put (H0 := H') (sd := .d (.exc a C dd f y)) (.exc e2 (rep.mono s2)) hi'
    refine (Classical.choose_spec (hsu a (.ref C) (some dd))).2 B F2 H' _ _ (outSlot i M) E00 (inSlot i D) r3 (hws a dd) ⟨fun F H τ ε r q => lk.nx F H _ _ (r.gone i) q, lk.rt, fun F H τ ε r q => lk.bk F H _ _ (r.gone i) q, fun F H τ ε r q => lk.ct F H _ _ (r.gone i) q⟩ fun _ _ _ _ _ _ _ _ _ _ _ _ _ z => z
def wXf (i : Nat) (a C : Addr) (cls : Value) (d : Option Addr) (n : Str) : WE := fun δ Q _ => ∃ dd x, δ[i]? = some (some (.d (.exc a C dd n x))) ∧ cls = .ref C ∧ d = some dd ∧ Q (.d x) δ
end
end DL
namespace DL
open PySem L2
def putD (f : Str) (x : D) : List (Str × D) → List (Str × D)
  | [] => [(f, x)]
  | (g, y) :: r => if g = f then (g, x) :: r else (g, y) :: putD f x r
section
variable {X : Cx} {CX : CXT} {k : Nat} {f C : Addr} {fd : FuncData} {ps : List Str} {sp : Sp} {dvs : List V} {ds : List Value} {E : St → XK} {x m : Str} {p pos apos : Pos} {e o : Expr} {es : List Expr} {ta : TE} {t : TA}
theorem run_fnE {pins : List (Addr × Obj)} {σ : St} {H : Hp} {s : Shared} {Q : VK} {us : List Value} {vs : List V} (F : FnOk X.prog X.w X.K X.mg X.base CX k f fd ps sp) (hr : Room k X.A) (hb : Binds X.K fd ps ds) (hd : Vals dvs ds) (hx : PassesAt CX X σ (E σ))
    (I : Inv X pins σ H s) (r : Vals vs us) (h : sp (vs ++ dvs) H Q (E σ)) : wpAny (model X.prog X.w) X.A (call (.ref f) us) (EP X pins σ Q) X.xe s := by
  have r2 := r.append hd
  have hl : (us ++ ds).length = ps.length := r2.length.symm.trans (F.len _ _ _ _ h)
  refine wpAny_call (codeAny_mono (F.run X.A X.stack s H ⟨us, []⟩ (us ++ ds) (vs ++ dvs) Q (E σ) hr I.env0 (hb s us I.kIn hl) r2 h) fun res t hq => ?_)
  match res, hq with
  | .error e, hq => exact hx pins H s e t I hq
  | .ok (.ret u), hq => exact I.after hq
def tMethE (C : Addr) (m : Str) (sp : Sp) (dvs : List V) (E : St → XK) (ta : TE) (t : TA) : TE := fun σ H Q => ta σ H fun x H1 => ∃ a dx fs, x = .ref a ∧ H1 a = some (.ins C dx fs) ∧ fs.lookup m = none ∧
  t σ H1 fun vs H2 => sp (x :: (vs ++ dvs)) H2 Q (E σ)
theorem pe_methE {pl : Sem Bool} (he : PE X o ta) (c : Cls X.K C) (hm : Meth X.K C m f) (F : FnOk X.prog X.w X.K X.mg X.base CX k f fd ps sp) (hr : Room k X.A) (hb : Binds X.K fd ps ds) (hd : Vals dvs ds) (hx : ∀ σ, PassesAt CX X σ (E σ)) (ha : PA X (e :: es) t)
    (hst : starEach (e :: es) X.env = (false, eval e X.env) :: starEach es X.env) (hpl : (backTo pos (starEach es X.env)).any (·.1) = false)
    (ht : eval (.Call (.Attribute o m apos) (e :: es) [] pos) X.env = (do
      let ov ← eval o X.env
      standAt apos.atName
      let (g, first) ← holding [ov] (getMethod ov m pl)
      callWith pos g first (backTo pos (starEach (e :: es) X.env)) (backToKw pos (keywordEach [] X.env)))) :
    PE X (.Call (.Attribute o m apos) (e :: es) [] pos) (tMethE C m sp dvs E ta t) := ⟨fun pins s σ H Q I h => by
  refine PySem.W.methodCall_KW (pl := pl) (thn (he.run pins s σ H _ I h) fun u t1 hh => ?_) ht
  obtain ⟨x, H1, I1, rx, a, dx, fs, rfl, ea, l, q⟩ := hh
  cases (show u = Value.ref a from rx)
  refine getmeth_ok I1 ea c hm l (PySem.W.callWith_K (first := [.ref a]) (h₀ := X.base) I.ok.mod.kin hm.kp (thn (ha.run pos pins t1 σ H1 _ I1 q) fun us t2 hh => ?_) hst hpl)
  obtain ⟨vs, H2, I2, r, q2⟩ := hh
  exact ⟨I2.kIn, run_fnE (us := .ref a :: us) (vs := .ref a :: vs) F hr hb hd (hx σ) I2 (.cons rfl r) q2⟩⟩
theorem pe_methE0 {pl : Sem Bool} (he : PE X o ta) (c : Cls X.K C) (hm : Meth X.K C m f) (F : FnOk X.prog X.w X.K X.mg X.base CX k f fd ps sp) (hr : Room k X.A) (hb : Binds X.K fd ps ds) (hd : Vals dvs ds) (hx : ∀ σ, PassesAt CX X σ (E σ))
    (ht : eval (.Call (.Attribute o m apos) [] [] pos) X.env = (do
      let ov ← eval o X.env
      standAt apos.atName
      let (g, first) ← holding [ov] (getMethod ov m pl)
      callWith pos g first (backTo pos (starEach [] X.env)) (backToKw pos (keywordEach [] X.env)))) :
    PE X (.Call (.Attribute o m apos) [] [] pos) (tMethE C m sp dvs E ta tNil) := ⟨fun pins s σ H Q I h => by
  refine PySem.W.methodCall_KW (pl := pl) (thn (he.run pins s σ H _ I h) fun u t1 hh => ?_) ht
  obtain ⟨x, H1, I1, rx, a, dx, fs, rfl, ea, l, q⟩ := hh
  cases (show u = Value.ref a from rx)
  exact getmeth_ok I1 ea c hm l (PySem.W.callWith_K0 (first := [.ref a]) I1.kIn hm.kp (run_fnE (us := [.ref a]) (vs := [.ref a]) F hr hb hd (hx σ) I1 (.cons rfl .nil) q))⟩
def tMakeE (C : Addr) (sp : Sp) (dvs : List V) (E : St → XK) (t : TA) : TE := fun σ H Q => t σ H fun vs H1 => ∀ x dx, H1 x = none → H1 dx = none → dx ≠ x →
  sp (.ref x :: (vs ++ dvs)) (upd (upd H1 dx (.own x)) x (.ins C dx [])) (fun v H2 => v = .non ∧ Q (.ref x) H2) (E σ)
theorem run_makeE {pins : List (Addr × Obj)} {σ : St} {H : Hp} {s : Shared} {Q : VK} {us : List Value} {vs : List V} (M : Mk X.K C f) (F : FnOk X.prog X.w X.K X.mg X.base CX k f fd ps sp) (hr : Room (k + 1) X.A) (hb : Binds X.K fd ps ds) (hd : Vals dvs ds)
    (hx : PassesAt CX X σ (E σ)) (I : Inv X pins σ H s) (r : Vals vs us)
    (h : ∀ x dx, H x = none → H dx = none → dx ≠ x → sp (.ref x :: (vs ++ dvs)) (upd (upd H dx (.own x)) x (.ins C dx [])) (fun v H2 => v = .non ∧ Q (.ref x) H2) (E σ)) :
    wpAny (model X.prog X.w) X.A (call (.ref C) us) (EP X pins σ Q) X.xe s := by
  have wish := h (s.heap.objs.size + 1) s.heap.objs.size (I.hok.fresh (Nat.le_succ _)) (I.hok.fresh (Nat.le_refl _)) (Nat.ne_of_lt (Nat.lt_succ_self _))
  have I2 := Inv.made (C := C) I
  have r2 : Vals (V.ref (s.heap.objs.size + 1) :: (vs ++ dvs)) (Value.ref (s.heap.objs.size + 1) :: (us ++ ds)) := .cons rfl (r.append hd)
  have hl : (Value.ref (s.heap.objs.size + 1) :: us ++ ds).length = ps.length := r2.length.symm.trans (F.len _ _ _ _ wish)
  refine wpAny_call (make_map (f := f) I.kIn M.makes M.init (beq_iff_eq.mp M.fn) (codeAny_mono (F.run _ X.stack _ _ ⟨Value.ref (s.heap.objs.size + 1) :: us, []⟩ (Value.ref (s.heap.objs.size + 1) :: (us ++ ds)) _ _ (E σ) (hr.make C us [])
    (I2.env0.make C us []) (hb _ (Value.ref (s.heap.objs.size + 1) :: us) I2.kIn hl) r2 wish) fun res t hq => ?_))
  match res, hq with
  | .error e, hq => exact hx pins _ _ e t I2 hq
  | .ok (.ret u), hq =>
    obtain ⟨v, H', I3, rv, rfl, q3⟩ := I2.after hq
    exact ⟨rv, ⟨V.ref (s.heap.objs.size + 1), H', I3, rfl, q3⟩⟩
theorem pe_makeE (M : Mk X.K C f) (F : FnOk X.prog X.w X.K X.mg X.base CX k f fd ps sp) (hr : Room (k + 1) X.A) (hg : Gl X x) (hm : X.mg x = some (.ref C)) (hb : Binds X.K fd ps ds) (hd : Vals dvs ds) (hx : ∀ σ, PassesAt CX X σ (E σ))
    (ha : PA X (e :: es) t) (hdb : (x == ("__debug__" : Str)) = false) (he : starEach (e :: es) X.env = (false, eval e X.env) :: starEach es X.env) (hpl : (backTo pos (starEach es X.env)).any (·.1) = false) :
    PE X (.Call (.Name x p) (e :: es) [] pos) (tMakeE C sp dvs E t) := ⟨fun pins s σ H Q I h => by
  refine wpAny_Call_Name_kw (ld_glob I hg hm (PySem.W.callWith_K (h₀ := X.base) I.ok.mod.kin M.kp (thn (ha.run pos pins s σ H _ I h) fun us t1 hh => ?_) he hpl) hdb)
  obtain ⟨vs, H1, I1, r, q⟩ := hh
  exact ⟨I1.kIn, run_makeE M F hr hb hd (hx σ) I1 r q⟩⟩
end
end DL
namespace DL
open PySem L2
section
variable {K : PySem.W.Frag} {B : Bs} {F H H1 F' H' : Hp} {σ : St} {δ : Dl}
theorem RepF.put {f : Str} {v : V} {d : D} (q : Rep K F v d) : ∀ {vs : List (Str × V)} {ds : List (Str × D)}, RepF K F vs ds → RepF K F (putF f v vs) (putD f d ds)
  | _, _, .nil => .cons q .nil
  | _, _, .cons (k := k) h r => by
    show RepF K F (if k = f then _ else _) (if k = f then _ else _)
    by_cases z : k = f
    · rw [if_pos z, if_pos z]; exact .cons q r
    · rw [if_neg z, if_neg z]; exact .cons h (RepF.put q r)
theorem RB.backN {τ : St} {α : Dl} {x : Addr} (r : RB K B F H1 σ δ) (ext : ∀ b o, H1 b = some o → H b = some o) (hx : H1 x = none) (r' : RB K ⟨F, H, [x], τ⟩ F' H' τ α) : RB K B F' H' σ δ ∧ Stp σ δ δ F H1 F' H' := by
  have hh : Same H1 H' := fun b o e => r'.h0 b o (ext b o e) fun z => by
    have : b = x := by simpa using z
    subst this
    rw [hx] at e; cases e
  have fn : ∀ {a o}, F a = none → H1 a = some o → F' a = none := fun {a o} h1 h2 => by
    cases e : F' a with
    | none => rfl
    | some u =>
      rcases r'.nw a u e with ⟨z, q⟩ | q
      · have q' : F a = some z := q
        rw [h1] at q'; cases q'
      · have q' : H a = none := q
        rw [ext _ _ h2] at q'; cases q'
  have hn : ∀ {b}, H b = none → H1 b = none := fun {b} q => by
    cases e : H1 b with
    | none => rfl
    | some u => rw [ext _ _ e] at q; cases q
  have oa : ∀ {a c}, OwnA K F H1 a c → OwnA K F' H' a c := fun {a c} ⟨h1, u, h2, h3⟩ => ⟨fn h1 h2, u, hh _ _ h2, h3.mono r'.f0⟩
  refine ⟨⟨r'.sub, r.len, fun i x e => let ⟨v, h1, h2⟩ := r.dat i x e; ⟨v, h1, h2.mono r'.f0⟩, fun i c e => let ⟨a, h1, h2, h3⟩ := r.own i c e; ⟨a, h1, oa h2, h3⟩, fun i c e => let ⟨a, h1, h2, h3⟩ := r.par i c e; ⟨a, h1, oa h2, h3⟩, r.apt, r.f0.trans r'.f0,
    fun b o e n => hh _ _ (r.h0 b o e n), fun b hb => ?_, fun b o e => ?_⟩, ⟨r'.f0, fun b o e _ => hh _ _ e, fun b o e => ?_, fun _ z => z, fun b o e => ⟨o, hh _ _ e⟩⟩⟩
  · obtain ⟨h1, ⟨o, h2⟩, h3⟩ := r.hO b hb
    exact ⟨fn h1 h2, ⟨o, hh _ _ h2⟩, h3⟩
  · rcases r'.nw b o e with ⟨z, q⟩ | q
    · exact r.nw b z q
    · exact .inr (r.hnone (hn q))
  · rcases r'.nw b o e with ⟨z, q⟩ | q
    · exact .inl ⟨z, q⟩
    · exact .inr (.inl (hn q))
def nons (n : Nat) : List D := List.replicate n .non
theorem repNons : ∀ n, RepL K F (List.replicate n V.non) (nons n)
  | 0 => .nil
  | n + 1 => .cons .non (repNons n)
theorem valsNons : ∀ n, Vals (List.replicate n V.non) (List.replicate n Value.none)
  | 0 => .nil
  | n + 1 => .cons rfl (valsNons n)
end
section
variable {Φ : Fam} {W : WX} {e o val : Expr} {es : List Expr} {pos p pos' apos : Pos} {C f g : Addr} {fd : FuncData} {ps : List Str} {k : Nat} {ds : DSp} {m : Str}
def wFld (C : Addr) (f : Str) (w : WO) : WE := fun δ Q E => w δ (fun o δ1 => match view δ1 o with
  | some (.obj C' fs) => C' = C ∧ ∃ d, fs.lookup f = some d ∧ Q (.d d) δ1
  | _ => False) E
theorem de_fld {w : WO} (c : Cls Φ.K C) (n : NoAttr Φ.K C m) (ha : DO Φ W e w) (hb : ∀ i, attributeBase e m (Φ.X i).env (eval e (Φ.X i).env) = eval e (Φ.X i).env := by intro _; rfl) : DE Φ W (.Attribute e m pos) (wFld C m w) := by
  obtain ⟨t, h1, h2⟩ := ha
  refine ⟨tFld Φ.K t m, fun i => by rw [← Φ.hK i]; exact pe_fld (h1 i) (hb i), fun B F H σ δ Q E Qh r hw pp xl => ?_⟩
  refine h2 B F H σ δ _ E _ r hw (fun v F1 H1 o δ1 r1 s1 v1 q => ?_) xl
  split at q
  · rename_i C' fs ey
    obtain ⟨rfl, d, hd, q⟩ := q
    obtain ⟨a, dx, vs, rfl, ha, rep⟩ := (r1.view v1 ey).obj r1.sub
    obtain ⟨u, hu, ru⟩ := rep.lookup hd
    exact ⟨a, _, dx, vs, u, rfl, ha, c, n, hu, pp u F1 H1 (.d d) δ1 r1 s1 ru q⟩
  · exact q.elim
def wSetF (n : Nat) (C : Addr) (f : Str) (w : WF) : WS := fun M E δ => w δ (fun x δ1 => match ownOf δ1 n with
  | some (.ob C' fs) => C' = C ∧ fs.length < 1000 ∧ M.nx (keepKind δ1 n (.ob C (putD f x fs)))
  | _ => False) E
theorem ds_fld (n : Nat) {y : Str} {w : WF} (c : Cls Φ.K C) (na : NoAttr Φ.K C m) (hv : DF Φ W val w)
    (hN : ∀ j, (Φ.X j).N[n]? = some y := by intro _; rfl) (hvis : ∀ j, Vis (Φ.X j).env.scope y := by intro _; first | exact Or.inl rfl | exact Or.inr (Or.inl rfl) | exact Or.inr (Or.inr rfl)) (hdb : (y == ("__debug__" : Str)) = false := by decide)
    (hcd : (y == ("__classdict__" : Str)) = false := by decide) (hs : ∀ i, swapsWith val (some (.Attribute (.Name y p) m pos')) pos.line (Φ.X i).env = pure false := by intro _; rfl) :
    DS Φ W (.Assign [.Attribute (.Name y p) m pos'] val pos) (wSetF n C m w) := by
  obtain ⟨t, h1, h2⟩ := hv
  refine ⟨sFld Φ.K (tVar n) t m, fun i => by rw [← Φ.hK i]; exact ps_fld (pe_var (hN i) (hvis i) hdb hcd) (h1 i) (hs i), fun B F H σ δ M E D r hw lk xl => ?_⟩
  refine h2 B F H σ δ _ E _ r hw (fun v F1 H1 x δ1 r1 s1 rep q => ?_) (xl σ)
  split at q
  · rename_i C' fs eo
    obtain ⟨rfl, hl, q⟩ := q
    obtain ⟨a, ha, ⟨hF, ho, hH, hc⟩, _⟩ := ownOf_at r1 eo
    obtain ⟨dx, vs, rfl, hr⟩ := hc.ob
    have nw : ∀ b o, F1 b = some o → (∃ o', F1 b = some o') ∨ H1 b = none := fun b o e => .inl ⟨o, e⟩
    have sb : Same F1 (upd H1 a (.ins C' dx (putF m v vs))) := fun b o e => by
      by_cases z : b = a
      · subst z; rw [hF] at e; cases e
      · rw [upd_ne z]; exact r1.sub _ _ e
    obtain ⟨r2, s2⟩ := r1.chg (F' := F1) (H' := upd H1 a (.ins C' dx (putF m v vs))) (c := .ob C' (putD m x fs)) eo ha (.refl _) sb ⟨hF, _, upd_same, rfl, hr.put rep⟩ (fun b o e n => by rw [upd_ne n]; exact e) nw
    exact ⟨_, ha, a, C', dx, vs, rfl, hH, c, na, by rw [hr.len]; exact hl, lk.nx _ _ _ _ r2 q⟩
  · exact q.elim
def wMeth (ds : DSp) (C : Addr) (m : Str) (n : Nat) (wo : WF) (w : WL) : WE := fun δ Q E => wo δ (fun o δ1 => match o with
  | .obj C' fs => C' = C ∧ fs.lookup m = none ∧ w δ1 (fun xs δ2 => ds (argsD (.obj C fs :: (xs ++ nons n))) (fun sd _ => Q sd δ2) (fun C f x _ => E C f x δ2)) E
  | _ => False) E
structure FnN (Φ : Fam) (k : Nat) (f : Addr) (fd : FuncData) (ps : List Str) (n : Nat) (ds : DSp) : Prop where
  ok : ∀ i, FnOk (Φ.X i).prog (Φ.X i).w (Φ.X i).K (Φ.X i).mg (Φ.X i).base (L2.CX (Φ.X i).prog (Φ.X i).w) k f fd ps (toSp Φ.K ds)
  bi : ∀ i, Binds (Φ.X i).K fd ps (List.replicate n Value.none)
theorem objRep {K : PySem.W.Frag} {F : Hp} {v : V} {C : Addr} {fs : List (Str × D)} (h : Rep K F v (.obj C fs)) : ∃ a dx vs, v = .ref a ∧ F a = some (.ins C dx vs) ∧ RepF K F vs fs := by
  cases h with
  | obj h1 h2 => exact ⟨_, _, _, rfl, h1, h2⟩
def wMake (ds : DSp) (C : Addr) (n : Nat) (w : WL) : WE := fun δ Q E => w δ (fun xs δ1 => ds (some (.p (.ob C [])) :: argsD (xs ++ nons n)) (fun sd α => match α with
    | some (.p (.ob C' fs)) :: _ => sd = .d .non ∧ Q (.o (.ob C' fs)) δ1
    | _ => False) (fun C f x _ => E C f x δ1)) E
theorem hdO {α : Dl} {R : Addr → List (Str × D) → Prop} (h : match α with | some (.p (.ob C' fs)) :: _ => R C' fs | _ => False) : ∃ C' fs r, α = some (.p (.ob C' fs)) :: r ∧ R C' fs := by
  split at h
  · exact ⟨_, _, _, rfl, h⟩
  · exact h.elim
end
end DL
namespace DL
open PySem L2
section
variable {K : PySem.W.Frag} {B : Bs} {H0 F H F' H' : Hp} {σ : St} {δ δ' : Dl} {v : V}
theorem SR.step (s : Stp σ δ δ' F H F' H') : ∀ {sd : SD}, SR K B H0 F H σ δ v sd → SR K B H0 F' H' σ δ' v sd
  | .d _, h => Rep.mono s.f h
  | .o _, ⟨a, e, o, n, b, z⟩ => ⟨a, e, o.step s n, fun q => n (s.o a q), b, z⟩
  | .p _, h => h.elim
theorem SR.beside {i : Nat} {u : V} {su sv : SD} (r : RB K B F H σ δ) (hi : i < δ.length) (hu : SR K B H0 F H σ δ u su) (hv : SR K B H0 F H σ δ v sv)
    (ap : ∀ a c c', u = .ref a → su = .o c → v = .ref a → sv = .o c' → False) : SR K B H0 F H (σ.set i (some u)) (δ.set i (some su)) v sv := by
  cases sv with
  | d x => exact hv
  | p c => exact hv.elim
  | o c =>
    obtain ⟨a, rfl, o, n, b, z⟩ := hv
    refine ⟨a, rfl, o, fun q => ?_, b, z⟩
    obtain ⟨j, ⟨c', e⟩, hs⟩ := q
    by_cases ij : i = j
    · subst ij
      rw [List.getElem?_set_self hi] at e
      rw [List.getElem?_set_self (by rw [← r.len]; exact hi)] at hs
      injection hs with hs; injection hs with hs
      rcases e with e | e
      · injection e with e; injection e with e
        exact ap a c' c hs e rfl rfl
      · injection e with e; injection e with e
        subst e
        exact hu.elim
    · rw [List.getElem?_set_ne ij] at e hs
      exact n ⟨j, ⟨c', e⟩, hs⟩
end
section
variable {Φ : Fam} {W : WX} {a b c e tg : Expr} {pos : Pos}
abbrev WL2 := Dl → (SD → SD → Dl → Prop) → XQ → Prop
def wTwo (wa wb : WE) : WL2 := fun δ Q E => wa δ (fun x δ1 => wb δ1 (fun y δ2 => Q x y δ2) E) E
def Apart (u v : V) (su sv : SD) : Prop := ∀ a c c', u = .ref a → su = .o c → v = .ref a → sv = .o c' → False
theorem SR.apart {K : PySem.W.Frag} {B : Bs} {H0 F1 H1 F2 H2 : Hp} {σ : St} {δ1 δ2 : Dl} {u v : V} {su sv : SD} (h : SR K B H0 F1 H1 σ δ1 u su) (h' : SR K B H1 F2 H2 σ δ2 v sv) : Apart u v su sv := fun a c c' e1 e2 e3 e4 => by
  subst e1; subst e2; subst e3; subst e4
  obtain ⟨x, q1, ⟨_, o, q2, _⟩, _⟩ := h
  obtain ⟨y, q3, _, _, _, q4⟩ := h'
  cases q1
  cases q3
  rw [q4] at q2; cases q2
theorem da_two {wa wb : WE} (ha : DE Φ W a wa) (hb : DE Φ W b wb) (hs : ∀ i, starEach [a, b] (Φ.X i).env = (false, eval a (Φ.X i).env) :: starEach [b] (Φ.X i).env := by intro _; rfl) (hs2 : ∀ i, starEach [b] (Φ.X i).env = (false, eval b (Φ.X i).env) :: starEach [] (Φ.X i).env := by intro _; rfl) :
    ∃ t, (∀ i, PA (Φ.X i) [a, b] t) ∧ ∀ (B : Bs) (F H : Hp) (σ : St) (δ : Dl) (Q : SD → SD → Dl → Prop) (E : XQ) (Qh : List V → Hp → Prop), RB Φ.K B F H σ δ → wTwo wa wb δ Q E →
      (∀ u v F' H' su sv δ', RB Φ.K B F' H' σ δ' → Stp σ δ δ' F H F' H' → SR Φ.K B H F' H' σ δ' u su → SR Φ.K B H F' H' σ δ' v sv → Apart u v su sv → Q su sv δ' → Qh [u, v] H') → XL Φ.K B W σ E → t σ H Qh := by
  obtain ⟨t1, a1, a2⟩ := ha
  obtain ⟨t2, b1, b2⟩ := hb
  refine ⟨_, fun i => pa_cons (a1 i) (pa_cons (b1 i) pa_nil (hs2 i)) (hs i), fun B F H σ δ Q E Qh r hw p x => ?_⟩
  refine a2 B F H σ δ _ E _ r hw (fun u F1 H1 su δ1 r1 s1 q1 w1 => ?_) x
  refine b2 B F1 H1 σ δ1 _ E _ r1 w1 (fun v F2 H2 sv δ2 r2 s2 q2 w2 => ?_) x
  exact p u v F2 H2 su sv δ2 r2 (s1.trans s2) (q1.step s2) (q2.old fun _ z => s1.past z) (q1.apart q2) w2
def wPar (i j : Nat) (w : WL2) : WS := fun M E δ => w δ (fun x y δ' => i < δ'.length ∧ j < δ'.length ∧ M.nx ((δ'.set i (some x)).set j (some y))) E
theorem ds_par (i j : Nat) {x y : Str} {px py pt : Pos} {kt k2 : Nat} {pt2 : Pos} {wa wb : WE} (hc : ∀ k, (Φ.X k).calm = true) (hN : ∀ k, (Φ.X k).N.Nodup) (ha : DE Φ W a wa) (hb : DE Φ W b wb)
    (hw : ∀ k, swappedStores [.Tuple [.Name x px, .Name y py] kt pt] (.Tuple [a, b] k2 pt2) (Φ.X k).env = pure (some [x, y]))
    (hi : ∀ k, (Φ.X k).N[i]? = some x := by intro _; rfl) (hj : ∀ k, (Φ.X k).N[j]? = some y := by intro _; rfl) (hij : i ≠ j := by decide)
    (hx : ∀ k, (Φ.X k).env.scope.names.lookup x = some .local := by intro _; rfl) (hy : ∀ k, (Φ.X k).env.scope.names.lookup y = some .local := by intro _; rfl)
    (hs : ∀ i, starEach [a, b] (Φ.X i).env = (false, eval a (Φ.X i).env) :: starEach [b] (Φ.X i).env := by intro _; rfl) (hs2 : ∀ i, starEach [b] (Φ.X i).env = (false, eval b (Φ.X i).env) :: starEach [] (Φ.X i).env := by intro _; rfl)
    (hss : ∀ k, swapsWithSole [.Tuple [.Name x px, .Name y py] kt pt] (.Tuple [a, b] k2 pt2) pos.line (Φ.X k).env = pure false := by intro _; rfl) :
    DS Φ W (.Assign [.Tuple [.Name x px, .Name y py] kt pt] (.Tuple [a, b] k2 pt2) pos) (wPar i j (wTwo wa wb)) := by
  obtain ⟨t, h1, h2⟩ := da_two ha hb hs hs2
  refine ⟨_, fun k => ps_par (hc k) (hN k) (hi k) (hj k) hij (hx k) (hy k) (h1 k) (hw k) (hss k), fun B F H σ δ M E D r hwp lk xl => ?_⟩
  refine h2 B F H σ δ _ E _ r hwp (fun u v F1 H1 su sv δ1 r1 s1 q1 q2 ap w => ?_) (xl σ)
  obtain ⟨l1, l2, w⟩ := w
  refine ⟨u, v, rfl, lk.nx _ _ _ _ ((r1.put q1 l1).put (SR.beside r1 l1 q1 q2 ap) (by rw [List.length_set]; exact l2)) w⟩
def wUn (w : WF) (g : WG) : WS := fun M E δ => w δ (fun x δ' => g x δ' M.nx) E
theorem ds_un {ns : List Nat} {w : WF} {g : WG} (he : DF Φ W e w) (hg : DG Φ tg ns g) (hs : ∀ i, swapsWithSole [tg] e pos.line (Φ.X i).env = pure false := by intro _; rfl) (hw : ∀ i, swappedStores [tg] e (Φ.X i).env = pure none := by intro _; rfl)
    (h1 : ∀ i, (assignEach [tg] (Φ.X i).env).map (·.2) = [assign tg (Φ.X i).env] := by intro _; rfl) : DS Φ W (.Assign [tg] e pos) (wUn w g) := by
  obtain ⟨t, a1, a2⟩ := he
  obtain ⟨g, g1, g2⟩ := hg
  exact ⟨_, fun i => ps_asg (a1 i) (g1 i) (hs i) (hw i) (h1 i), fun B F H σ δ M E D r hw lk xl => a2 B F H σ δ _ E _ r hw (fun v F1 H1 x δ1 r1 s1 rep q => g2 B F1 H1 σ δ1 x v _ _ r1 rep q fun σ' δ' r' _ _ q' => lk.nx _ _ _ _ r' q') (xl σ)⟩
def wAugI (i : Nat) (f : Int → Int → Int) (w : WF) : WS := fun M E δ => ∃ n, δ[i]? = some (some (.d (.int n))) ∧ w δ (fun x δ' => match x with
  | .int m => i < δ'.length ∧ M.nx (δ'.set i (some (.d (.int (f n m)))))
  | _ => False) E
end
end DL
namespace DL
open PySem L2
section
variable {α : Type}
def valG (kvs : List (Key × α)) (k : Key) : Option α := (kvs.find? fun p => decide (p.1 = k)).map (·.2)
def putG (kvs : List (Key × α)) (k : Key) (v : α) : List (Key × α) := if (kvs.any fun p => decide (p.1 = k)) = true then kvs.map (fun p => if p.1 = k then (p.1, v) else p) else kvs ++ [(k, v)]
end
def keyD : D → Option Key
  | .int i => some (.inl i)
  | .str x => some (.inr x)
  | _ => none
def dKey : Key → D
  | .inl i => .int i
  | .inr x => .str x
section
variable {K : PySem.W.Frag} {F H : Hp} {v : V}
theorem PR.key {x : D} {k : Key} (h : PR K F H v x) (e : keyD x = some k) : v = kV k := by
  cases x with
  | int i => cases e; exact h.int
  | str z => cases e; exact h.str
  | _ => cases e
theorem Rep.key {x : D} {k : Key} (h : Rep K F v x) (e : keyD x = some k) : v = kV k := PR.key (H := F) (.inl h) e
theorem repKey : ∀ k : Key, Rep K F (kV k) (dKey k)
  | .inl i => .int i
  | .inr x => .str x
theorem RepK.val {k : Key} : ∀ {vs : List (Key × V)} {ds : List (Key × D)}, RepK K F vs ds → (∀ d, valG ds k = some d → ∃ v, valV vs k = some v ∧ Rep K F v d) ∧ (valG ds k = none → valV vs k = none)
  | _, _, .nil => ⟨fun d e => (nomatch (show (none : Option D) = some d from e)), fun _ => rfl⟩
  | _, _, .cons (k := k') h r => by
    unfold valG valV
    simp only [List.find?]
    by_cases q : k' = k
    · simp only [q, decide_true]
      refine ⟨fun d e => ?_, fun e => ?_⟩
      · cases e; exact ⟨_, rfl, h⟩
      · cases e
    · simp only [q, decide_false]
      exact RepK.val (k := k) r
theorem RepK.any {k : Key} : ∀ {vs : List (Key × V)} {ds : List (Key × D)}, RepK K F vs ds → (vs.any fun p => decide (p.1 = k)) = ds.any fun p => decide (p.1 = k)
  | _, _, .nil => rfl
  | _, _, .cons h r => by simp only [List.any_cons]; rw [RepK.any r]
theorem RepK.len : ∀ {vs : List (Key × V)} {ds : List (Key × D)}, RepK K F vs ds → vs.length = ds.length
  | _, _, .nil => rfl
  | _, _, .cons _ r => congrArg (· + 1) (RepK.len r)
theorem RepK.app : ∀ {vs us : List (Key × V)} {ds es : List (Key × D)}, RepK K F vs ds → RepK K F us es → RepK K F (vs ++ us) (ds ++ es)
  | _, _, _, _, .nil, s => s
  | _, _, _, _, .cons h r, s => .cons h (RepK.app r s)
theorem RepK.repl {k : Key} {d : D} (q : Rep K F v d) : ∀ {vs : List (Key × V)} {ds : List (Key × D)}, RepK K F vs ds → RepK K F (vs.map fun p => if p.1 = k then (p.1, v) else p) (ds.map fun p => if p.1 = k then (p.1, d) else p)
  | _, _, .nil => .nil
  | _, _, .cons (k := k') h r => by
    simp only [List.map_cons]
    by_cases z : k' = k
    · rw [if_pos z, if_pos z]; exact .cons q (RepK.repl q r)
    · rw [if_neg z, if_neg z]; exact .cons h (RepK.repl q r)
theorem RepK.put {k : Key} {d : D} (q : Rep K F v d) {vs : List (Key × V)} {ds : List (Key × D)} (r : RepK K F vs ds) : RepK K F (putK vs k v) (putG ds k d) := by
  unfold putK putG
  rw [RepK.any r]
  split
  · exact RepK.repl q r
  · exact r.app (.cons q .nil)
end
section
variable {Φ : Fam} {W : WX} {o i e val : Expr} {pos pos' apos cpos : Pos}
def wIxD (wo wi : WO) : WE := fun δ Q E => wo δ (fun o1 δ1 => wi δ1 (fun o2 δ2 => match view δ2 o1, (view δ2 o2).bind keyD with
  | some (.dic kvs), some k => ∃ d, valG kvs k = some d ∧ Q (.d d) δ2
  | _, _ => False) E) E
theorem bindKey {o : Option D} {k : Key} (h : o.bind keyD = some k) : ∃ d, o = some d ∧ keyD d = some k := by
  cases o with
  | none => cases h
  | some d => exact ⟨d, rfl, h⟩
theorem de_ixD {wo wi : WO} (hu : ∀ i, (Φ.X i).A.units + 64 < cLine) (ho : DO Φ W o wo) (hi : DO Φ W i wi) (hs : NoSl i := by intro _ _; rfl) : DE Φ W (.Subscript o i pos) (wIxD wo wi) := by
  obtain ⟨t, a1, a2⟩ := ho
  obtain ⟨u, b1, b2⟩ := hi
  refine ⟨_, fun j => pe_dget (by have := hu j; omega) (a1 j) (b1 j) hs, fun B F H σ δ Q E Qh r hw pp xl => ?_⟩
  refine a2 B F H σ δ _ E _ r hw (fun v F1 H1 o1 δ1 r1 s1 v1 q1 => ?_) xl
  refine b2 B F1 H1 σ δ1 _ E _ r1 q1 (fun w F2 H2 o2 δ2 r2 s2 v2 q2 => ?_) xl
  split at q2
  · rename_i kvs k e1 e2
    obtain ⟨d, hd, q⟩ := q2
    obtain ⟨y, e3, e4⟩ := bindKey e2
    obtain ⟨a, vs, rfl, h1, h2⟩ := (r2.view (OpV.step s2.f v1) e1).dic r2.sub
    obtain rfl := (r2.view v2 e3).key e4
    obtain ⟨x, hx, rx⟩ := (h2.val (k := k)).1 d hd
    exact ⟨a, x, rfl, by rw [← hx]; exact DGet.k h1, pp _ F2 H2 (.d d) δ2 r2 (s1.trans s2) rx q⟩
  · exact q2.elim
def wInD (neg : Bool) (wi wo : WO) : WE := fun δ Q E => wi δ (fun o1 δ1 => wo δ1 (fun o2 δ2 => match (view δ2 o1).bind keyD, view δ2 o2 with
  | some k, some (.dic kvs) => Q (.d (.bl (neg ^^ (valG kvs k).isSome))) δ2
  | _, _ => False) E) E
theorem val_some {K : PySem.W.Frag} {F : Hp} {vs : List (Key × V)} {ds : List (Key × D)} (r : RepK K F vs ds) (k : Key) : (valV vs k).isSome = (valG ds k).isSome := by
  cases e : valG ds k with
  | none => rw [(r.val (k := k)).2 e]; rfl
  | some d =>
    obtain ⟨v, e1, _⟩ := (r.val (k := k)).1 d e
    rw [e1]; rfl
def wGet2 (wo wi : WO) (wx : WF) : WE := fun δ Q E => wo δ (fun o1 δ1 => (match view δ1 o1 with
  | some (.dic _) => True
  | _ => False) ∧ wi δ1 (fun o2 δ2 => wx δ2 (fun x δ3 => match view δ3 o1, (view δ3 o2).bind keyD with
  | some (.dic kvs), some k => Q (.d ((valG kvs k).getD x)) δ3
  | _, _ => False) E) E) E
theorem de_get2 {wo wi : WO} {wx : WF} (hu : ∀ i, (Φ.X i).A.units + 64 < cLine) (ho : DO Φ W o wo) (hi : DO Φ W i wi) (hx : DF Φ W e wx)
    (m : ∀ j, M2 (Φ.X j) o "get" apos i e cpos := by intro _; exact ⟨rfl, rfl, rfl, rfl⟩) : DE Φ W (.Call (.Attribute o "get" apos) [i, e] [] cpos) (wGet2 wo wi wx) := by
  obtain ⟨t, a1, a2⟩ := ho
  obtain ⟨u, b1, b2⟩ := hi
  obtain ⟨z, c1, c2⟩ := hx
  refine ⟨_, fun j => pe_dget2 (by have := hu j; omega) (a1 j) (b1 j) (c1 j) (m j), fun B F H σ δ Q E Qh r hw pp xl => ?_⟩
  refine a2 B F H σ δ _ E _ r hw (fun v F1 H1 o1 δ1 r1 s1 v1 q1 => ?_) xl
  obtain ⟨k1, q1⟩ := q1
  split at k1
  · rename_i kvs0 e0
    obtain ⟨a, vs0, rfl, g1, _⟩ := (r1.view v1 e0).dic r1.sub
    refine ⟨a, rfl, .inl ⟨_, .of g1⟩, ?_⟩
    refine b2 B F1 H1 σ δ1 _ E _ r1 q1 (fun w F2 H2 o2 δ2 r2 s2 v2 q2 => ?_) xl
    refine c2 B F2 H2 σ δ2 _ E _ r2 q2 (fun y F3 H3 x δ3 r3 s3 rep q3 => ?_) xl
    split at q3
    · rename_i kvs k e1 e2
      obtain ⟨yy, e3, e4⟩ := bindKey e2
      obtain ⟨a', vs, ea, h1, h2⟩ := (r3.view (OpV.step (s2.trans s3).f v1) e1).dic r3.sub
      cases ea
      obtain rfl := (r3.view (OpV.step s3.f v2) e3).key e4
      refine ⟨_, DGet.k h1, ?_⟩
      refine pp _ F3 H3 (.d _) δ3 r3 ((s1.trans s2).trans s3) ?_ q3
      cases ev : valG kvs k with
      | none => rw [(h2.val (k := k)).2 ev]; exact rep
      | some d =>
        obtain ⟨v', e5, e6⟩ := (h2.val (k := k)).1 d ev
        rw [e5]
        exact e6
    · exact q3.elim
  · exact k1.elim
def wNewD : WE := fun δ Q _ => Q (.o (.k [])) δ
theorem de_newD : DE Φ W (.Dict [] [] pos) wNewD := ⟨_, fun _ => pe_dnewK, fun B F H σ δ Q E Qh r hw pp xl p hp =>
  pp (.ref p) F _ (.o (.k [])) δ (r.lay hp) (.lay hp) ⟨p, rfl, ⟨r.fnone hp, _, upd_same, .nil⟩, r.now hp, r.hnone hp, hp⟩ hw⟩
def wPutD (n : Nat) (wi wv : WF) : WS := fun M E δ => wv δ (fun x δ1 => (∃ c, ownOf δ1 n = some c) ∧ wi δ1 (fun y δ2 => match ownOf δ2 n, keyD y with
  | some (.k kvs), some k => kvs.length < sizeLine ∧ M.nx (keepKind δ2 n (.k (putG kvs k x)))
  | _, _ => False) E) E
theorem ds_putD (n : Nat) {y : Str} {p : Pos} {wi wv : WF} (hu : ∀ i, (Φ.X i).A.units + 64 < cLine) (hi : DF Φ W i wi) (hv : DF Φ W val wv)
    (hN : ∀ j, (Φ.X j).N[n]? = some y := by intro _; rfl) (hvis : ∀ j, Vis (Φ.X j).env.scope y := by intro _; first | exact Or.inl rfl | exact Or.inr (Or.inl rfl) | exact Or.inr (Or.inr rfl)) (hdb : (y == ("__debug__" : Str)) = false := by decide)
    (hcd : (y == ("__classdict__" : Str)) = false := by decide) (hs : ∀ j, swapsWith val (some (.Subscript (.Name y p) i pos')) pos.line (Φ.X j).env = pure false := by intro _; rfl) :
    DS Φ W (.Assign [.Subscript (.Name y p) i pos'] val pos) (wPutD n wi wv) := by
  obtain ⟨t, a1, a2⟩ := hv
  obtain ⟨u, b1, b2⟩ := hi
  refine ⟨_, fun j => ps_dput (by have := hu j; omega) (pe_var (hN j) (hvis j) hdb hcd) (b1 j) (a1 j) (hs j), fun B F H σ δ M E D r hw lk xl => ?_⟩
  refine a2 B F H σ δ _ E _ r hw (fun v F1 H1 x δ1 r1 s1 rep q1 => ?_) (xl σ)
  obtain ⟨⟨c0, ec0⟩, q1⟩ := q1
  obtain ⟨a, ha, _, _⟩ := ownOf_at r1 ec0
  refine ⟨_, ha, ?_⟩
  refine b2 B F1 H1 σ δ1 _ E _ r1 q1 (fun w F2 H2 z δ2 r2 s2 rz q2 => ?_) (xl σ)
  split at q2
  · rename_i kvs k eo ek
    obtain ⟨hl, q⟩ := q2
    obtain ⟨a', ha', ⟨hF, ho, hH, hc⟩, _⟩ := ownOf_at r2 eo
    rw [ha] at ha'; cases ha'
    obtain ⟨vs, rfl, hr⟩ := hc.dK
    obtain rfl := rz.key ek
    have sb : Same F2 (upd H2 a (.dK (putK vs k v))) := fun b o e => by
      by_cases zz : b = a
      · subst zz; rw [hF] at e; cases e
      · rw [upd_ne zz]; exact r2.sub _ _ e
    obtain ⟨r3, s3⟩ := r2.chg (F' := F2) (H' := upd H2 a (.dK (putK vs k v))) (c := .k (putG kvs k x)) eo ha (.refl _) sb ⟨hF, _, upd_same, hr.put (rep.mono s2.f)⟩ (fun b o e nn => by rw [upd_ne nn]; exact e) (fun b o e => .inl ⟨o, e⟩)
    exact ⟨a, _, rfl, DPut.k hH (by rw [hr.len]; exact hl), lk.nx _ _ _ _ r3 q⟩
  · exact q2.elim
end
end DL
namespace TX
open PySem PySem.Spec PyProof.Rows L2
def word (e : Int × Value) : Str := match e.2 with
  | .str x _ => x
  | _ => Str.empty
def GoodW (w : World) (e : Int × Value) : Prop := ∃ x tk, e.2 = Value.str x tk ∧ e.1 = hashStr w x
def Words (w : World) (h : Heap) (a : Addr) (xs : List Str) : Prop :=
  ∃ o es ep t, (h.get? a = some o ∧ o.ExactSet ∧ o.data = .set es ep t) ∧ (∀ e ∈ es.toList, GoodW w e) ∧ (es.toList.map word).Perm xs ∧ xs.Nodup ∧ es.size < scanBound ∧ t.fits es.size = true ∧ Ris t.place.toList ∧ (w.params.followText "set-order" = true ∨ t.led = true)
def once (acc : List Str) (x : Str) : List Str := if x ∈ acc then acc else acc ++ [x]
def onceOf (xs : List Str) : List Str := xs.foldl once []
theorem once_len (acc : List Str) (x : Str) : (once acc x).length ≤ acc.length + 1 := by
  unfold once
  split <;> simp
theorem once_fold : ∀ (xs acc : List Str), (xs.foldl once acc).length ≤ acc.length + xs.length
  | [], acc => by simp
  | x :: r, acc => by
    have h1 := once_fold r (once acc x)
    have h2 := once_len acc x
    simp only [List.foldl_cons, List.length_cons]
    omega
theorem onceOf_len (xs : List Str) : (onceOf xs).length ≤ xs.length := by
  have := once_fold xs []
  simpa [onceOf] using this
theorem onceOf_more {xs : List Str} {i : Nat} {x : Str} (h : xs[i]? = some x) : onceOf (xs.take (i + 1)) = once (onceOf (xs.take i)) x := by
  unfold onceOf
  rw [List.take_add_one, h, List.foldl_append]
  rfl
section
variable {P : Program} {w : World} {A : Around} {E : Value → Shared → Prop} {s : Shared} {a : Addr} {xs : List Str} {h h' : Heap}
theorem Words.at (R : Words w h a xs) (k : ∀ o, h.get? a = some o → h'.get? a = some o) : Words w h' a xs :=
  let ⟨o, es, ep, t, ⟨ho, hx⟩, r⟩ := R
  ⟨o, es, ep, t, ⟨k o ho, hx⟩, r⟩
theorem elems_of {l : List (Int × Value)} (g : ∀ e ∈ l, GoodW w e) : ElemsOf (PySem.strKind P w) l := fun e he => by
  obtain ⟨x, tk, h1, h2⟩ := g e he
  exact ⟨⟨x, by rw [h1]; exact strKind_is P w x tk, h2⟩, by rw [h1] <;> rfl⟩
theorem is_word {e : Int × Value} (g : GoodW w e) (x : Str) : (PySem.strKind P w).is x e.2 = true ↔ word e = x := by
  obtain ⟨x0, tk, h1, _⟩ := g
  unfold word
  rw [h1]
  show Value.isStrOf x (.str x0 tk) = true ↔ x0 = x
  constructor
  · intro q
    obtain ⟨u, hu⟩ := Value.isStrOf_shape q
    injection hu
  · intro q
    subst q
    exact strKind_is P w x0 tk
theorem put_end {o : Obj} {es es1 : Array (Int × Value)} {ep : Nat} {t t2 : SetTable} {wasD : Bool} {ys : List Str} {R : Option Bool → Shared → Prop} {g : Bool → Sem Unit}
    (hg : ∀ (b : Bool) (sx : Shared) (Q' : Unit → Shared → Prop), Q' () sx → wpAny (model P w) A (g b) Q' E sx) (ho : s.heap.get? a = some o ∧ o.ExactSet ∧ o.data = .set es ep t)
    (g1 : ∀ e ∈ es1.toList, GoodW w e) (pm1 : (es1.toList.map word).Perm ys) (nd : ys.Nodup) (hb1 : es1.size < scanBound) (hf2 : t2.fits es1.size = true) (hr : Ris t2.place.toList) (hl : w.params.followText "set-order" = true ∨ t2.led = true)
    (hR : ∀ g', Heap.SameBut a s.heap g' → Words w g' a ys → R (some true) { s with heap := g' }) :
    wpAny (model P w) A (do
        storeSet a es1 t2
        if (!wasD && t2.tooFull) = true then do
            g (relayAll t2 es1 (SetTable.grown es1.size)).2.2
            storeSet a (relayAll t2 es1 (SetTable.grown es1.size)).1 (relayAll t2 es1 (SetTable.grown es1.size)).2.1
            pure (some true)
          else pure (some true)) R E s := by
  obtain ⟨ho, hex, hd⟩ := ho
  refine wpAny_bind (wpAny_storeSet_of ho hd ?_ (fits_of_scanBound hb1))
  have here := store_at (es' := es1) (t' := t2) ho hd
  have same := Heap.SameBut.update s.heap a (Obj.putSet es1 t2)
  by_cases c : (!wasD && t2.tooFull) = true
  · rw [if_pos c]
    have pm := relayAll_perm t2 es1 (SetTable.grown es1.size)
    have ft := relayAll_fits t2 es1 (SetTable.grown es1.size)
    have rs := relayAll_ris t2 es1 (SetTable.grown es1.size)
    have ld := relayAll_led t2 es1 (SetTable.grown es1.size)
    generalize relayAll t2 es1 (SetTable.grown es1.size) = Z at pm ft rs ld ⊢
    obtain ⟨es2, t3, gave⟩ := Z
    have sz : es2.size = es1.size := by rw [← Array.length_toList, (show es2.toList.Perm es1.toList from pm).length_eq, Array.length_toList]
    have lt : es2.size < scanBound := by rw [sz]; exact hb1
    refine wpAny_bind (hg _ _ _ (wpAny_bind (wpAny_storeSet_of here rfl ?_ (fits_of_scanBound lt))))
    have there := store_at (es' := es2) (t' := t3) here rfl
    exact wpAny_pure (hR _ (same.trans (Heap.SameBut.update _ a _)) ⟨_, es2, _, t3, ⟨there, hex, rfl⟩, fun e he => g1 e (pm.mem_iff.mp he), (pm.map word).trans pm1, nd, lt, ft, rs, hl.imp id fun z => ld.trans z⟩)
  · rw [if_neg c]
    exact wpAny_pure (hR _ same ⟨_, es1, _, t2, ⟨here, hex, rfl⟩, g1, pm1, nd, hb1, hf2, hr, hl⟩)
theorem put_word {x : Str} {tk : Tok} {Q : Bool → Shared → Prop} (R : Words w s.heap a xs) (room : xs.length + 1 < scanBound)
    (hQ : ∀ b g', Heap.SameBut a s.heap g' → Words w g' a (once xs x) → Q b { s with heap := g' }) :
    wpAny (model P w) A (setAddHashed a (.str x tk) ((PySem.strKind P w).hash x)) Q E s := by
  obtain ⟨o, es, ep, t, ⟨ho, hex, hd⟩, g, pm0, nd, hb, hf, hr, hl⟩ := R
  have isx : (PySem.strKind P w).is x (.str x tk) = true := strKind_is P w x tk
  have scn : (Value.str x tk).scannable = true := rfl
  have els : ElemsOf (PySem.strKind P w) es.toList := elems_of g
  have memb : ∀ y, y ∈ xs ↔ ∃ e ∈ es.toList, (PySem.strKind P w).is y e.2 = true := fun y => by
    rw [← pm0.mem_iff, List.mem_map]
    exact ⟨fun ⟨e, he, q⟩ => ⟨e, he, (is_word (g e he) y).2 q⟩, fun ⟨e, he, q⟩ => ⟨e, he, (is_word (g e he) y).1 q⟩⟩
  unfold setAddHashed setAddHashedIn
  refine wpAny_holding (wpAny_bind (wpAny_setState_of ho hd hf ?_))
  dsimp only
  rw [byScan_of scn hb els]
  simp only [↓reduceIte]
  unfold setAddByScan
  refine wpAny_bind (wpAny_bind (wpAny_rule (wpAny_bind (wpAny_setScan_of isx ho hd hf els ?_))))
  cases hfi : List.findIdx? (fun e => (PySem.strKind P w).is x e.2) es.toList with
  | some j =>
    obtain ⟨hj, pj, _⟩ := List.findIdx?_eq_some_iff_getElem.mp hfi
    have inx : x ∈ xs := (memb x).2 ⟨es.toList[j], List.getElem_mem hj, pj⟩
    have q := fun b => hQ b s.heap (Heap.SameBut.refl a s.heap) (by unfold once; rw [if_pos inx]; exact ⟨o, es, ep, t, ⟨ho, hex, hd⟩, g, pm0, nd, hb, hf, hr, hl⟩)
    exact wpAny_pure (wpAny_pure (q _))
  | none =>
    have nix : x ∉ xs := fun z => by
      obtain ⟨e, he, q⟩ := (memb x).1 z
      have c := List.findIdx?_eq_none_iff.mp hfi e he
      rw [q] at c; cases c
    have way : ∀ (b : Bool) {sx : Shared} {Q' : Unit → Shared → Prop}, Q' () sx → wpAny (model P w) A (match b with | true => rule "set.scan.the-table-gave-way" | false => pure ()) Q' E sx := fun b sx Q' q => match b with
      | true => wpAny_rule q
      | false => wpAny_pure q
    have pm := layNew_perm t es ((PySem.strKind P w).hash x) (.str x tk)
    have ft := layNew_fits t es ((PySem.strKind P w).hash x) (.str x tk)
    have rs := layNew_ris t es ((PySem.strKind P w).hash x) (.str x tk) hr
    have ld := layNew_led t es ((PySem.strKind P w).hash x) (.str x tk)
    generalize layNew t es ((PySem.strKind P w).hash x) (.str x tk) = Z at pm ft rs ld ⊢
    obtain ⟨es1, t1, wasD, gave⟩ := Z
    dsimp only at pm ft rs ld ⊢
    rw [Array.toList_push] at pm
    have pk : (es1.toList.map word).Perm (xs ++ [x]) := (pm.map word).trans (by
      rw [List.map_append]
      exact pm0.append (List.Perm.refl _))
    have g1 : ∀ e ∈ es1.toList, GoodW w e := fun e he => by
      rcases List.mem_append.mp (pm.mem_iff.mp he) with z | z
      · exact g e z
      · rw [List.mem_singleton.mp z]; exact ⟨x, tk, rfl, rfl⟩
    have nd1 : (xs ++ [x]).Nodup := List.nodup_append.mpr ⟨nd, List.nodup_cons.mpr ⟨by simp, List.nodup_nil⟩, fun y hy z hz e => nix (by rw [List.mem_singleton.mp hz] at e; rw [← e]; exact hy)⟩
    have sz : es1.size = xs.length + 1 := by
      have q := pk.length_eq
      rw [List.length_map, Array.length_toList, List.length_append] at q
      exact q
    have hb1 : es1.size < scanBound := by rw [sz]; exact room
    have led : w.params.followText "set-order" = true ∨ t1.led = true := hl.imp id fun z => ld.trans z
    have fin : ∀ g', Heap.SameBut a s.heap g' → Words w g' a (xs ++ [x]) → ∀ b, Q b { s with heap := g' } := fun g' sb r b => hQ b g' sb (by unfold once; rw [if_neg nix]; exact r)
    refine wpAny_bind (way _ ?_)
    split
    · refine wpAny_bind ?_
      rw [hashByValue_scannable 8 scn]
      refine wpAny_pure (put_end (ys := xs ++ [x]) ?_ ⟨ho, hex, hd⟩ g1 pk nd1 hb1 ?_ ?_ ?_ ?_)
      · intro b sx Q' q; exact way b q
      · first | exact ft | (split <;> first | exact ft | exact SetTable.fits_plain_off ft)
      · first | exact rs | (split <;> exact rs)
      · first | exact led | (split <;> exact led)
      · intro g' sb r; exact wpAny_pure (fin g' sb r _)
    · refine wpAny_bind (wpAny_pure ?_)
      simp only [↓reduceIte]
      refine put_end (ys := xs ++ [x]) ?_ ⟨ho, hex, hd⟩ g1 pk nd1 hb1 ft rs led ?_
      · intro b sx Q' q; exact way b q
      · intro g' sb r; exact wpAny_pure (fin g' sb r _)
theorem words_new (led : Bool) (hl : w.params.followText "set-order" = true ∨ led = true) {g : Heap} (ho : g.get? a = some { cls := .type "set", dict := none, data := .set #[] 0 (.fresh 0 0 led) }) : Words w g a [] :=
  ⟨_, #[], 0, _, ⟨ho, ⟨rfl, rfl, rfl⟩, rfl⟩, (fun e he => by simp at he), (by simp), List.nodup_nil, (by decide), (by rfl), List.Pairwise.nil, hl⟩
end
section
variable {prog : Program} {w : World} {A : Around} {R : Result → Shared → Prop} {I : Addr} {fp wr : List Addr} {G : Array GenState → Array GenState → Prop} {n : Nat} {P : Nat → Value → Prop} {St : Nat → Shared → Prop}
theorem words_loop (W : WalksS prog w A.in1 I fp wr G n P St) (S : Addr) (out : S ∉ fp) (xs : List Str) (len : xs.length = n) (few : n + 1 < scanBound) (val : ∀ i v, P i v → ∃ x t, xs[i]? = some x ∧ v = .str x t) :
    ∀ (k i : Nat) (s : Shared), n - i = k → i ≤ n → St i s → Words w s.heap S (onceOf (xs.take i)) →
      (∀ t, Moved (S :: wr) G s t → Words w t.heap S (onceOf xs) → R (.ok (.ret .none)) t) → codeAny (model prog w) A (.builtin "set.update.loop" ⟨[.ref S, .ref I], []⟩) R s := by
  have ow : S ∉ wr := fun h => out (W.sub _ h)
  have more : ∀ b ∈ wr, b ∈ S :: wr := fun b hb => List.mem_cons_of_mem _ hb
  intro k
  induction k with
  | zero =>
    intro i s hk hi hst hS hR
    obtain rfl : i = n := by omega
    refine codeAny_builtin PyProof.Rows.F.entry_set_update_loop ?_
    rw [Around.under_plainId PyProof.Rows.F.plain_set_update_loop _]
    show wpAny _ A.in1 (pyNext (.ref I) >>= _) _ _ s
    refine wpAny_bind (W.done s _ _ hst fun t hm => wpAny_pure (hR t (hm.mono more) ?_))
    rw [← len, List.take_length] at hS
    exact hS.at fun o e => hm.heap S _ ow e
  | succ k ih =>
    intro i s hk hi hst hS hR
    have lt : i < n := by omega
    refine codeAny_builtin PyProof.Rows.F.entry_set_update_loop ?_
    rw [Around.under_plainId PyProof.Rows.F.plain_set_update_loop _]
    show wpAny _ A.in1 (pyNext (.ref I) >>= _) _ _ s
    refine wpAny_bind (W.item i s _ _ lt hst fun v t hP hst' hm => ?_)
    obtain ⟨x, tk, hx, rfl⟩ := val i v hP
    have hS1 := hS.at (h' := t.heap) fun o e => hm.heap S _ ow e
    show wpAny _ A.in1 (holding [Value.str x tk] (setAdd S (.str x tk)) >>= _) _ _ t
    refine wpAny_bind (wpAny_holding ?_)
    unfold setAdd
    refine wpAny_holding (wpAny_bind ((PySem.strKind prog w).pyHash (k := x) (strKind_is _ _ _ _) ?_))
    have room : (onceOf (xs.take i)).length + 1 < scanBound := by
      have h1 := onceOf_len (xs.take i)
      rw [List.length_take] at h1
      omega
    refine put_word (s := { t with toks := t.toks + 1 }) hS1 room fun b g' same hS2 => ?_
    have nS : ∀ {c : Addr}, c ∈ fp → c ≠ S := fun hc z => out (z ▸ hc)
    refine wpAny_pure ⟨plainId_quiet PyProof.Rows.F.plain_set_update_loop _, ih (i + 1) _ (by omega) lt (W.frame _ t _ _ hst' (Nat.le_succ _) fun c hc o e => (same.2 c (nS hc)).trans e) (by rw [onceOf_more hx]; exact hS2) fun u hm2 hS3 => ?_⟩
    refine hR u (Moved.trans W.gtrans ((hm.mono more).then_heap (Nat.le_succ _) fun c o hc e => ?_) hm2) hS3
    exact (same.2 c fun z => hc (by rw [z]; exact List.mem_cons_self)).trans e
end
section
variable {prog : Program} {w : World} {A : Around} {E : Value → Shared → Prop} {s : Shared}
theorem set_words {l : Addr} {items : Array Value} {xs : List Str} {Q : Value → Shared → Prop} (hh : A.handled = none) (hl : s.heap.IsList l items) (hi : StrsAre items.toList xs) (few : items.size + 1 < scanBound)
    (h : ∀ (g : Heap) (tk : Nat), Words w g s.heap.objs.size (onceOf xs) → (∀ b o, b < s.heap.objs.size → s.heap.get? b = some o → g.get? b = some o) → Q (.ref s.heap.objs.size) { s with heap := g, toks := tk }) :
    wpAny (model prog w) A (call (.type "set") [.ref l]) Q E s := by
  obtain ⟨c, tl, hmro⟩ := PySem.F.called_set.mro
  have h0 := PySem.F.called_set.made
  have hsub := PySem.F.called_set.sub
  refine wpAny_call (codeAny_of_tree ?_)
  show wpAny _ _ (callAny (.type "set") _) _ _ _
  refine wpAny_pure ⟨Code.quiet_builtin _ (by decide +kernel), codeAny_builtin PySem.F.entry_type_call ?_⟩
  rw [Around.under_plain (weight_type_call_type "set" [.ref l] []) rfl]
  have h1 := PySem.F.called_set.notType
  have h2 := PySem.F.called_set.canCreate
  have h3 := PySem.F.typeCall_set_1 (.ref l)
  repeat (any_goals (first | assumption | wp_step))
  refine codeAny_mono (code_set_led1 (.ref l) (E := E) (Q₁ := fun obj t => obj = .ref s.heap.objs.size ∧ t = { s with heap := s.heap.push (({ cls := Value.type "set", dict := none, data := Data.set #[] 0 (SetTable.fresh 0 0 (!(w).params.followText "set-order")) } : Obj)) }) ⟨rfl, rfl⟩) fun r t hr => ?_
  match r, hr with
  | .error e, hr => exact hr
  | .ok (.ret obj), hr =>
    obtain ⟨rfl, rfl⟩ := hr
    have at0 : (s.heap.push (({ cls := Value.type "set", dict := none, data := Data.set #[] 0 (SetTable.fresh 0 0 (!(w).params.followText "set-order")) } : Obj))).get? s.heap.objs.size = some (({ cls := Value.type "set", dict := none, data := Data.set #[] 0 (SetTable.fresh 0 0 (!(w).params.followText "set-order")) } : Obj)) := Heap.get?_push_size _ rfl
    have ty0 : Shared.TypeIs { s with heap := s.heap.push (({ cls := Value.type "set", dict := none, data := Data.set #[] 0 (SetTable.fresh 0 0 (!(w).params.followText "set-order")) } : Obj)) } (.ref s.heap.objs.size) "set" := ⟨_, at0, rfl⟩
    have i1 := PySem.F.called_set.init.lookup
    have i2 := PySem.F.called_set.init.bind (.ref s.heap.objs.size)
    repeat (any_goals (first | assumption | wp_step))
    refine codeAny_mono (codeAny_call_builtin (R := wants (fun r u => r = .none ∧ ∃ g tk, u = { s with heap := g, toks := tk } ∧ Words w g s.heap.objs.size (onceOf xs) ∧
        (∀ b o, b < s.heap.objs.size → s.heap.get? b = some o → g.get? b = some o)) E) PySem.F.called_set.init.plain PySem.F.entry_set_init (check_set_init_1 ty0 ?_)) fun r u hr => ?_
    · obtain ⟨ol, hol, hcl, nl, hdl⟩ := hl
      obtain ⟨ocls, odict, odata, oslots⟩ := ol
      simp only at hcl hdl
      subst hcl; subst hdl
      have up : (s.heap.push (({ cls := Value.type "set", dict := none, data := Data.set #[] 0 (SetTable.fresh 0 0 (!(w).params.followText "set-order")) } : Obj))).get? l = some { cls := .type "list", dict := odict, data := .seq items nl, slots := oslots } := Heap.get?_push_of_some _ hol
      have n1 := PySem.F.sub_list_set
      have n2 := PySem.F.sub_list_frozenset
      have n3 : (Value.type "list" == Value.type "dict") = false := by decide
      have isl : (s.heap.push (({ cls := Value.type "set", dict := none, data := Data.set #[] 0 (SetTable.fresh 0 0 (!(w).params.followText "set-order")) } : Obj))).IsList l items := ⟨_, up, rfl, nl, rfl⟩
      unfold Builtin.«set.__init__» noKeywords Builtin.Frozenset.updateFrom
      generalize hPI : pyIter = PI
      wp_walk
      subst hPI
      (refine wpAny_pyIter_list isl ?_; refine wpAny_bind (wpAny_runValue ?_))
      have ls : l < s.heap.objs.size := Heap.lt_size hol
      have sz : (s.heap.push (({ cls := Value.type "set", dict := none, data := Data.set #[] 0 (SetTable.fresh 0 0 (!(w).params.followText "set-order")) } : Obj))).objs.size = s.heap.objs.size + 1 := Heap.size_push _ _
      have h3' : A.in1.in1.in1.handled = none := by simp [hh]
      have ne1 : l ≠ (s.heap.push (({ cls := Value.type "set", dict := none, data := Data.set #[] 0 (SetTable.fresh 0 0 (!(w).params.followText "set-order")) } : Obj))).objs.size := by rw [sz]; exact Nat.ne_of_lt (Nat.lt_succ_of_lt ls)
      have ne2 : s.heap.objs.size ∉ [(s.heap.push (({ cls := Value.type "set", dict := none, data := Data.set #[] 0 (SetTable.fresh 0 0 (!(w).params.followText "set-order")) } : Obj))).objs.size, l] := by
        rw [sz]
        simp only [List.mem_cons, List.not_mem_nil, or_false, not_or]
        exact ⟨Nat.ne_of_lt (Nat.lt_succ_self _), Nat.ne_of_gt ls⟩
      have len : xs.length = items.size := by rw [← StrsAre.len_eq hi, Array.length_toList]
      have val : ∀ (i : Nat) (v : Value), items[i]? = some v → ∃ x t, xs[i]? = some x ∧ v = .str x t := fun i v hv => by
        have lt : i < xs.length := by rw [len]; exact (Array.getElem?_eq_some_iff.mp hv).1
        obtain ⟨t, ht⟩ := StrsAre.at hi (List.getElem?_eq_getElem lt)
        rw [Array.getElem?_toList, hv] at ht
        exact ⟨_, t, List.getElem?_eq_getElem lt, Option.some.inj ht⟩
      refine words_loop ((Walks.list h3' _ l ne1 items).toS) s.heap.objs.size ne2 xs len few val (items.size - 0) 0 _ (by omega) (Nat.zero_le _)
        ⟨⟨_, Heap.get?_push_size _ rfl, rfl, rfl⟩, (isl.push _)⟩ ?_ ?_
      · rw [List.take_zero]
        refine words_new (!w.params.followText "set-order") ?_ (Heap.get?_push_of_some _ at0)
        cases w.params.followText "set-order" <;> simp
      · intro t hm hS
        obtain ⟨g, gs, ds, tk, os⟩ := t
        have e1 : gs = s.gens := hm.gens
        have e2 : ds = s.drawn := hm.drawn
        have e3 : os = s.os := hm.os
        subst e1; subst e2; subst e3
        show wpAny _ _ _ _ _ _
        refine wpAny_pure ?_
        show wpAny _ _ (ret Value.none) _ _ _
        refine wpAny_pure ⟨rfl, g, tk, rfl, hS, fun b o hb e => ?_⟩
        have b1 : b ≠ s.heap.objs.size := Nat.ne_of_lt hb
        have b2 : b ≠ (s.heap.push (({ cls := Value.type "set", dict := none, data := Data.set #[] 0 (SetTable.fresh 0 0 (!(w).params.followText "set-order")) } : Obj))).objs.size := by rw [sz]; exact Nat.ne_of_lt (Nat.lt_succ_of_lt hb)
        exact hm.heap b o (by simp only [List.mem_cons, List.not_mem_nil, or_false, not_or]; exact ⟨b1, b2⟩) (Heap.get?_push_of_some _ (Heap.get?_push_of_some _ e))
    · match r, hr with
      | .error e, hr => exact hr
      | .ok (.ret r), hr =>
        obtain ⟨rfl, g, tk, rfl, hS, hk⟩ := hr
        repeat (any_goals (first | assumption | wp_step))
        exact h _ _ hS hk
end
end TX
namespace TX
open PySem PySem.Spec PyProof.Rows L2
def leS (x y : Str) : Bool := PySem.W.dataLe false PyData.str x y
theorem leS_eq (x y : Str) : leS x y = decide (x.cps.toList ≤ y.cps.toList) := by
  unfold leS
  have h := PySem.W.dataLe_str (β := Str) (fun x => x)
  exact congrFun (congrFun h x) y
theorem str_eq {x y : Str} (h : x.cps.toList = y.cps.toList) : x = y := by
  cases x; cases y
  simp only at h
  rw [Array.toList_inj.mp h]
theorem leS_anti {x y : Str} (h1 : leS x y = true) (h2 : leS y x = true) : x = y := by
  rw [leS_eq, decide_eq_true_eq] at h1 h2
  exact str_eq (List.le_antisymm h1 h2)
theorem leS_trans (x y z : Str) (h1 : leS x y = true) (h2 : leS y z = true) : leS x z = true := by
  rw [leS_eq, decide_eq_true_eq] at h1 h2 ⊢
  exact List.le_trans h1 h2
theorem leS_total (x y : Str) : (leS x y || leS y x) = true := by
  rw [leS_eq, leS_eq, Bool.or_eq_true, decide_eq_true_eq, decide_eq_true_eq]
  exact List.le_total _ _
theorem sort_perm {xs ys : List Str} (h : xs.Perm ys) : xs.mergeSort leS = ys.mergeSort leS := by
  refine List.Perm.eq_of_pairwise (le := fun a b => leS a b = true) (fun a b _ _ h1 h2 => leS_anti h1 h2) (List.pairwise_mergeSort leS_trans leS_total _) (List.pairwise_mergeSort leS_trans leS_total _) ?_
  exact ((List.mergeSort_perm _ _).trans h).trans (List.mergeSort_perm _ _).symm
section
variable {P : Program} {w : World} {A : Around} {E : Value → Shared → Prop} {s : Shared} {a : Addr} {xs : List Str}
def IsW (v : Value) (x : Str) : Prop := ∃ t, v = .str x t
theorem each_words : ∀ {vs : List Value}, (∀ v ∈ vs, ∃ x t, v = Value.str x t) → PySem.W.EachIs IsW vs (vs.map fun v => word (0, v))
  | [], _ => .nil
  | v :: vs, h => by
    obtain ⟨x, t, rfl⟩ := h v List.mem_cons_self
    exact .cons ⟨t, rfl⟩ (each_words fun u hu => h u (List.mem_cons_of_mem _ hu))
theorem each_strs : ∀ {vs : List Value} {zs : List Str}, PySem.W.EachIs IsW vs zs → StrsAre vs zs
  | _, _, .nil => .nil
  | _, _, .cons ⟨t, h⟩ r => by subst h; exact .cons _ t (each_strs r)
theorem sorted_words {Q : Value → Shared → Prop} (R : Words w s.heap a xs) (hh : A.handled = none) (few : xs.length < 4000) (un : A.units + 64 < cLine)
    (hQ : ∀ s' p (out : List Value) (c : Nat), (∀ b o, s.heap.get? b = some o → s'.heap.get? b = some o) → s'.gens = s.gens → s'.os = s.os → s.heap.objs.size ≤ p →
      s'.heap.get? p = some (seqObj "list" out.toArray c) → StrsAre out (xs.mergeSort leS) → Q (.ref p) s') :
    wpAny (model P w) A (call (.builtin "sorted") [.ref a]) Q E s := by
  obtain ⟨o, es, ep, t, ⟨ho, hex, hd⟩, g, pm0, nd, hb, hf, hr, hl⟩ := R
  refine Calls.call_function_entry kind_sorted plain_sorted entry_sorted (args_sorted1 _) ?_
  unfold Builtin.«sorted»
  refine wpAny_bind (m := checkCount "sorted" 1 1 _) (wpAny_pure (wpAny_bind ?_))
  refine collect_set (A := A.in1) hh ⟨o, ho, hex.1, hd⟩ hf hb hr hl fun s1 vs k1 hz g1 o1 pm => ?_
  have allw : ∀ v ∈ vs, ∃ x t, v = Value.str x t := fun v hv => by
    obtain ⟨e, he, q⟩ := List.mem_map.mp (pm.mem_iff.mp hv)
    obtain ⟨x, tk, h1, _⟩ := g e he
    exact ⟨x, tk, by rw [← q]; exact h1⟩
  have pw : (vs.map fun v => word (0, v)).Perm xs := by
    have q := pm.map fun v => word (0, v)
    rw [List.map_map] at q
    exact q.trans pm0
  have vl : vs.length = xs.length := by rw [← pw.length_eq, List.length_map]
  refine wpAny_bind (wpAny_newList ?_ (by rw [vl, sizeLine_eq]; omega))
  have new : (s1.heap.push (seqObj "list" vs.toArray 0)).get? s1.heap.objs.size = some (seqObj "list" vs.toArray 0) := Heap.get?_push_size _ rfl
  have ei := each_words allw
  have alike : PySem.W.AllAlike ((vs.map fun v => word (0, v)).map PyData.str) := PySem.W.AllAlike.of fun b b' => rfl
  have sortable : PySem.W.Sortable ((vs.map fun v => word (0, v)).map PyData.str) := PySem.W.Sortable.others fun b => ⟨(fun z => nomatch z), fun ys z => nomatch z⟩
  have ll : (vs.map fun v => word (0, v)).length ≤ sizeLine := by rw [List.length_map, vl, sizeLine_eq]; omega
  refine wpAny_bind (wpAny_holding (PySem.W.list_sort_data (s := { s1 with heap := s1.heap.push (seqObj "list" vs.toArray 0) }) (enc := PyData.str) new ei (ei.mono fun v x ⟨tk, e⟩ => ⟨[], by subst e; exact .str _ _, by simp⟩) alike sortable ll (fun b _ => ?_) fun out hlen eo => ?_))
  · show A.in1.units + 1 + 0 < cLine
    show A.units + 1 + 1 + 0 < cLine
    omega
  · obtain ⟨c, hc⟩ := sortedHeap_at (vs := vs) (out := out.toArray) new
    refine wpAny_pure ⟨_, rfl, hQ _ s1.heap.objs.size out c (fun b u e => ?_) g1 o1 hz hc ?_⟩
    · have q := k1 b u e
      have lt := Heap.lt_size q
      show (sortedHeap (s1.heap.push (seqObj "list" vs.toArray 0)) s1.heap.objs.size vs out.toArray).get? b = some u
      rw [sortedHeap_old (Nat.ne_of_lt lt) (by rw [size_push']; exact Nat.lt_succ_of_lt lt)]
      exact Heap.get?_push_of_some _ q
    · rw [← sort_perm pw]
      exact each_strs eo
end
end TX
namespace DL
open PySem PySem.Spec L2 TX
section
variable {X : Cx} {a : Expr} {ta : TE} {p p2 q pos : Pos}
def tLenW (K : PySem.W.Frag) (ta : TE) : TE := fun σ H Q => ta σ H fun x H1 => ∃ (l : Addr) (xs : List Str), x = .ref l ∧ SqL K H1 l (xs.map V.str) ∧ xs.length < 4000 ∧ Q (.int ((onceOf xs).length : Nat)) H1
def tSortW (K : PySem.W.Frag) (ta : TE) : TE := fun σ H Q => ta σ H fun x H1 => ∃ (l : Addr) (xs : List Str), x = .ref l ∧ SqL K H1 l (xs.map V.str) ∧ xs.length < 4000 ∧ ∀ p, H1 p = none → Q (.ref p) (upd H1 p (.lst (((onceOf xs).mergeSort leS).map V.str)))
theorem pe_lenW (hc : X.calm = true) (hg : Gl X "len") (hm : X.mg "len" = none) (hg2 : Gl X "set") (hm2 : X.mg "set" = none) (ha : PE X a ta)
    (na : starEach [a] X.env = (false, eval a X.env) :: starEach [] X.env) : PE X (.Call (.Name "len" p) [.Call (.Name "set" p2) [a] [] q] [] pos) (tLenW X.K ta) := ⟨fun pins s σ H Q I h => by
  refine PyProof.Rows.Call_ (ld_blt (u := .builtin "len") I hg hm (by decide +kernel) ?_)
  refine PyProof.Rows.callWith_builtin1 (PyProof.Rows.args_cons (PyProof.Rows.Call_ (ld_blt (u := .type "set") I hg2 hm2 (by decide +kernel) ?_)) rfl) rfl rfl
  refine PyProof.Rows.callWith_type1 (PyProof.Rows.args_cons (thn (ha.run pins s σ H _ I h) fun v t1 hh => PyProof.Rows.args_nil ?_) na) na rfl
  obtain ⟨x, H1, I1, r1, l, xs, rfl, hq, few, q1⟩ := hh
  cases r1
  obtain ⟨its, r, pl, hz⟩ := I1.list hq
  have len : its.toArray.size = xs.length := by rw [List.size_toArray, ← r.length, List.length_map]
  refine set_words (I1.ok.hd hc) pl.isList (by simpa using r.strs) (by rw [len]; unfold scanBound; omega) fun g tk hS hk => PyProof.Rows.args_nil ?_
  obtain ⟨o, es, ep, t, ⟨ho, hex, hd⟩, _, pm, _, _, hf, _, _⟩ := hS
  have n : es.size = (onceOf xs).length := by rw [← pm.length_eq, List.length_map, Array.length_toList]
  have I2 : Inv X pins σ H1 { t1 with heap := g, toks := tk } := I1.kept fun b o e => hk b o (Heap.lt_size e) e
  have le := onceOf_len xs
  exact call_len_set ho hex hd hf (by rw [n] <;> omega) ⟨.int (onceOf xs).length, H1, I2.tok _, ⟨_, by rw [n]⟩, q1⟩⟩
theorem pe_sortW (hc : X.calm = true) (hu : X.A.units + 64 < cLine) (hg : Gl X "sorted") (hm : X.mg "sorted" = none) (hg2 : Gl X "set") (hm2 : X.mg "set" = none) (ha : PE X a ta)
    (na : starEach [a] X.env = (false, eval a X.env) :: starEach [] X.env) : PE X (.Call (.Name "sorted" p) [.Call (.Name "set" p2) [a] [] q] [] pos) (tSortW X.K ta) := ⟨fun pins s σ H Q I h => by
  refine PyProof.Rows.Call_ (ld_blt (u := .builtin "sorted") I hg hm (by decide +kernel) ?_)
  refine PyProof.Rows.callWith_builtin1 (PyProof.Rows.args_cons (PyProof.Rows.Call_ (ld_blt (u := .type "set") I hg2 hm2 (by decide +kernel) ?_)) rfl) rfl rfl
  refine PyProof.Rows.callWith_type1 (PyProof.Rows.args_cons (thn (ha.run pins s σ H _ I h) fun v t1 hh => PyProof.Rows.args_nil ?_) na) na rfl
  obtain ⟨x, H1, I1, r1, l, xs, rfl, hq, few, q1⟩ := hh
  cases r1
  obtain ⟨its, r, pl, hz⟩ := I1.list hq
  have len : its.toArray.size = xs.length := by rw [List.size_toArray, ← r.length, List.length_map]
  refine set_words (I1.ok.hd hc) pl.isList (by simpa using r.strs) (by rw [len]; unfold scanBound; omega) fun g tk hS hk => PyProof.Rows.args_nil ?_
  have le := onceOf_len xs
  have I2 : Inv X pins σ H1 { t1 with heap := g, toks := tk } := I1.kept fun b o e => hk b o (Heap.lt_size e) e
  have hS2 : Words X.w ({ t1 with heap := g, toks := tk } : Shared).heap t1.heap.objs.size (onceOf xs) := hS
  show wpAny _ _ (call (.builtin "sorted") [Value.ref t1.heap.objs.size]) _ _ { t1 with heap := g, toks := tk }
  generalize ({ t1 with heap := g, toks := tk } : Shared) = t2 at I2 hS2 ⊢
  refine sorted_words (s := t2) hS2 (I1.ok.hd hc) (by omega) hu fun s' p out c k gg o hp hg hw => ?_
  have ll : (((onceOf xs).mergeSort leS).map V.str).length ≤ sizeLine := by rw [List.length_map, (List.mergeSort_perm _ _).length_eq, sizeLine_eq]; omega
  have hn : H1 p = none := I2.hok.fresh hp
  have J : Inv X pins σ (upd H1 p (.lst (((onceOf xs).mergeSort leS).map V.str))) { t2 with heap := s'.heap, gens := s'.gens, drawn := s'.drawn, toks := s'.toks } :=
    I2.call (ch := []) (Un.laid k hp hn) (I2.hok.laid k hp ⟨ll, out, c, vals_of_strs hw, hg⟩) (by rw [gg]; exact I2.bare) (fun _ z => nomatch z)
  have e : s' = { t2 with heap := s'.heap, gens := s'.gens, drawn := s'.drawn, toks := s'.toks } := by
    cases s'; cases t2; cases o; rfl
  rw [e]
  exact ⟨.ref p, _, J, rfl, q1 p hn⟩⟩
end
section
variable {Φ : Fam} {W : WX} {e : Expr} {p p2 q pos : Pos}
def wLenW (w : WO) : WE := fun δ Q E => w δ (fun o δ1 => match view δ1 o with
  | some (.lst ds) => ∃ xs, ds = xs.map D.str ∧ xs.length < 4000 ∧ Q (.d (.int ((onceOf xs).length : Nat))) δ1
  | _ => False) E
theorem de_lenW {w : WO} (hc : ∀ i, (Φ.X i).calm = true) (hm : ∀ i, (Φ.X i).mg "len" = none) (hm2 : ∀ i, (Φ.X i).mg "set" = none) (ha : DO Φ W e w) (hg : ∀ i, Gl (Φ.X i) "len" := by intro _; rfl) (hg2 : ∀ i, Gl (Φ.X i) "set" := by intro _; rfl)
    (na : ∀ i, starEach [e] (Φ.X i).env = (false, eval e (Φ.X i).env) :: starEach [] (Φ.X i).env := by intro _; rfl) : DE Φ W (.Call (.Name "len" p) [.Call (.Name "set" p2) [e] [] q] [] pos) (wLenW w) := by
  obtain ⟨t, h1, h2⟩ := ha
  refine ⟨tLenW Φ.K t, fun i => by rw [← Φ.hK i]; exact pe_lenW (hc i) (hg i) (hm i) (hg2 i) (hm2 i) (h1 i) (na i), fun B F H σ δ Q E Qh r hw pp xl => ?_⟩
  refine h2 B F H σ δ _ E _ r hw (fun v F1 H1 o δ1 r1 s1 v1 q => ?_) xl
  split at q
  · rename_i ds ey
    obtain ⟨xs, rfl, few, q⟩ := q
    obtain ⟨a, vs, rfl, ha, rep⟩ := (r1.view v1 ey).lst r1.sub
    rw [rep.strs] at ha
    exact ⟨a, xs, rfl, .of ha, few, pp _ F1 H1 (.d _) δ1 r1 s1 (.int _) q⟩
  · exact q.elim
def wSortW (w : WO) : WE := fun δ Q E => w δ (fun o δ1 => match view δ1 o with
  | some (.lst ds) => ∃ xs, ds = xs.map D.str ∧ xs.length < 4000 ∧ Q (.o (.l (((onceOf xs).mergeSort leS).map D.str))) δ1
  | _ => False) E
theorem de_sortW {w : WO} (hc : ∀ i, (Φ.X i).calm = true) (hu : ∀ i, (Φ.X i).A.units + 64 < cLine) (hm : ∀ i, (Φ.X i).mg "sorted" = none) (hm2 : ∀ i, (Φ.X i).mg "set" = none) (ha : DO Φ W e w) (hg : ∀ i, Gl (Φ.X i) "sorted" := by intro _; rfl) (hg2 : ∀ i, Gl (Φ.X i) "set" := by intro _; rfl)
    (na : ∀ i, starEach [e] (Φ.X i).env = (false, eval e (Φ.X i).env) :: starEach [] (Φ.X i).env := by intro _; rfl) : DE Φ W (.Call (.Name "sorted" p) [.Call (.Name "set" p2) [e] [] q] [] pos) (wSortW w) := by
  obtain ⟨t, h1, h2⟩ := ha
  refine ⟨tSortW Φ.K t, fun i => by rw [← Φ.hK i]; exact pe_sortW (hc i) (hu i) (hg i) (hm i) (hg2 i) (hm2 i) (h1 i) (na i), fun B F H σ δ Q E Qh r hw pp xl => ?_⟩
  refine h2 B F H σ δ _ E _ r hw (fun v F1 H1 o δ1 r1 s1 v1 q => ?_) xl
  split at q
  · rename_i ds ey
    obtain ⟨xs, rfl, few, q⟩ := q
    obtain ⟨a, vs, rfl, ha, rep⟩ := (r1.view v1 ey).lst r1.sub
    rw [rep.strs] at ha
    exact ⟨a, xs, rfl, .of ha, few, fun y hy => pp _ F1 _ (.o (.l _)) δ1 (r1.lay hy) (s1.trans (.lay hy)) ⟨y, rfl, ⟨r1.fnone hy, _, upd_same, repStrs _⟩, r1.now hy, r1.hnone hy, s1.past hy⟩ q⟩
  · exact q.elim
end
end DL
namespace DL
open PySem L2
open PyProof.Rows (envOfC)
structure Cz (Φ : Fam) (W : WX) (k : Nat) : Prop where
  nd : ∀ i, (Φ.X i).N.Nodup
  calm : ∀ i, (Φ.X i).calm = true
  tk : ∀ i, Takes (Φ.X i) W
  hr : ∀ i, Room k (Φ.X i).A
  hp : ∀ i, PassesOwn (model (Φ.X i).prog (Φ.X i).w) (Φ.X i).A (Φ.X i).env (Φ.X i).xe
section
variable {Φ : Fam} {W : WX} {k : Nat}
theorem Cz.hu (C : Cz Φ W k) : ∀ i, (Φ.X i).A.units + 64 < cLine := fun i => by
  have := (C.hr i).un
  omega
theorem Cz.rm (C : Cz Φ W k) {j : Nat} (h : j ≤ k) : ∀ i, Room j (Φ.X i).A := fun i => (C.hr i).mono h
theorem Cz.one {P : Program} {w : World} {K : PySem.W.Frag} {mg : Str → Option Value} {base : Heap} {N : List Str} {qual : Str} {scope : Scope} {f : Addr} {cdv : Value} {A : Around} {outer : List Env} {s : Shared} {H : Hp} {E : XK}
    (hr : Room k (A.deeper (envOfC qual scope s.heap.objs.size f cdv))) (nd : N.Nodup) : Cz (Fam.one (cxOf (L2.CX P w) P w K mg base N qual scope f cdv A outer s H E)) (fun cls d _ H' => E cls d H') k :=
  ⟨fun _ => nd, fun _ => rfl, fun _ => takes_of rfl rfl rfl rfl, fun _ => hr, fun _ => passes_of rfl⟩
theorem Cz.blk (C : Cz Φ W k) (scope : Scope) : Cz (Φ.blk scope) W0 k :=
  ⟨fun i => C.nd i.1, fun i => C.calm i.1, fun _ => takes_none5, fun i => C.hr i.1, fun _ => PassesOwn.never⟩
def IsFn (P : Program) (w : World) (K : PySem.W.Frag) (mg : Str → Option Value) (base : Heap) (x : Str) (k : Nat) (ps : List Str) (ds : DSp) : Prop :=
  ∃ f fd, mg x = some (.ref f) ∧ PySem.W.keepIn K (.ref f) = true ∧ Binds K fd ps [] ∧ FnOk P w K mg base (L2.CX P w) k f fd ps (toSp K ds)
theorem IsFn.mono {P : Program} {w : World} {K : PySem.W.Frag} {mg : Str → Option Value} {base : Heap} {x : Str} {j k : Nat} {ps : List Str} {ds : DSp} (F : IsFn P w K mg base x j ps ds) (h : j ≤ k) : IsFn P w K mg base x k ps ds := by
  obtain ⟨f, fd, h1, h2, h3, h4⟩ := F
  exact ⟨f, fd, h1, h2, h3, h4.mono h⟩
variable {x : Str} {ps : List Str} {ds : DSp} {j : Nat} {p pos : Pos} {e : Expr} {es : List Expr}
theorem c_call (C : Cz Φ W k) (F : ∀ i, IsFn (Φ.X i).prog (Φ.X i).w (Φ.X i).K (Φ.X i).mg (Φ.X i).base x j ps ds) {w : WL} (ha : DA Φ W (e :: es) w) (hj : j ≤ k := by decide)
    (hg : ∀ i, Gl (Φ.X i) x := by intro _; rfl) (hdb : (x == ("__debug__" : Str)) = false := by decide) (he : ∀ i, starEach (e :: es) (Φ.X i).env = (false, eval e (Φ.X i).env) :: starEach es (Φ.X i).env := by intro _; rfl) (hpl : ∀ i, (backTo pos (starEach es (Φ.X i).env)).any (·.1) = false := by intro _; rfl) :
    DE Φ W (.Call (.Name x p) (e :: es) [] pos) (wFn ds w) := by
  obtain ⟨t, h1, h2⟩ := ha
  refine ⟨tCallS (toSp Φ.K ds) (fun σ => L2.WE W σ) t, fun i => ?_, fun B F H σ δ Q E Qh r hw pp xl => ?_⟩
  · obtain ⟨f, fd, g1, g2, g3, g4⟩ := F i
    rw [← Φ.hK i]
    exact pe_callS g4 (C.rm hj i) (hg i) g1 g2 g3 (E := fun σ => L2.WE W σ) (fun σ => passAt (C.tk i) σ) (h1 i) hdb (he i) (hpl i)
  · refine h2 B F H σ δ _ E _ r hw (fun vs F1 H1 xs δ1 r1 s1 reps q => ?_) xl
    refine ⟨F1, [], argsD xs, _, _, r1.args reps, q, fun v F2 H2 sd α' r2 sr q2 => ?_, fun F2 H2 α' C dd f v y r2 hd hz rep q2 => ?_⟩
    · obtain ⟨r3, s3⟩ := r1.back r2
      exact pp v F2 H2 sd δ1 r3 (s1.trans s3) ((SR.back r1 r3 s3 sr).old fun _ z => s1.past z) q2
    · obtain ⟨r3, s3⟩ := r1.back r2
      exact xl F2 H2 δ1 C dd f v y r3 hd (r1.hnone hz) rep q2
theorem c_callP (C : Cz Φ W k) (F : ∀ i, IsFn (Φ.X i).prog (Φ.X i).w (Φ.X i).K (Φ.X i).mg (Φ.X i).base x j ps ds) (n : Nat) {y : Str} {p2 : Pos} {w : WL} (ha : DA Φ W es w) (hj : j ≤ k := by decide)
    (hN : ∀ j, (Φ.X j).N[n]? = some y := by intro _; rfl) (hv : ∀ j, Vis (Φ.X j).env.scope y := by intro _; first | exact Or.inl rfl | exact Or.inr (Or.inl rfl) | exact Or.inr (Or.inr rfl)) (hd : (y == ("__debug__" : Str)) = false := by decide)
    (hcd : (y == ("__classdict__" : Str)) = false := by decide)
    (hg : ∀ i, Gl (Φ.X i) x := by intro _; rfl) (hdb : (x == ("__debug__" : Str)) = false := by decide) (he : ∀ i, starEach (.Name y p2 :: es) (Φ.X i).env = (false, eval (.Name y p2) (Φ.X i).env) :: starEach es (Φ.X i).env := by intro _; rfl) (hpl : ∀ i, (backTo pos (starEach es (Φ.X i).env)).any (·.1) = false := by intro _; rfl) :
    DE Φ W (.Call (.Name x p) (.Name y p2 :: es) [] pos) (wFnP ds n w) := by
  obtain ⟨t, h1, h2⟩ := ha
  refine ⟨tCallS (toSp Φ.K ds) (fun σ => L2.WE W σ) (tCons (tVar n) t), fun i => ?_, fun B F H σ δ Q E Qh r hw pp xl => ?_⟩
  · obtain ⟨f, fd, g1, g2, g3, g4⟩ := F i
    rw [← Φ.hK i]
    exact pe_callS g4 (C.rm hj i) (hg i) g1 g2 g3 (E := fun σ => L2.WE W σ) (fun σ => passAt (C.tk i) σ) (pa_cons (pe_var (hN i) (hv i) hd hcd) (h1 i) (he i)) hdb (he i) (hpl i)
  · obtain ⟨⟨c0, hc0⟩, hw⟩ := hw
    obtain ⟨a, ha, _, _⟩ := ownOf_at r hc0
    refine ⟨_, ha, ?_⟩
    refine h2 B F H σ δ _ E _ r hw (fun vs F1 H1 xs δ1 r1 s1 reps q => ?_) xl
    split at q
    · rename_i c hc
      obtain ⟨a', ha', oa, ow⟩ := ownOf_at r1 hc
      rw [ha] at ha'; cases ha'
      have step : ∀ {F2 H2 : Hp} {c' : Cn} {τ : Dl}, RB Φ.K ⟨F1, H1, [a], (V.ref a :: vs).map some⟩ F2 H2 ((V.ref a :: vs).map some) (some (.p c') :: τ) → RB Φ.K B F2 H2 σ (keepKind δ1 n c') ∧ Stp σ δ1 (keepKind δ1 n c') F1 H1 F2 H2 := fun {F2 H2 c' τ} r2 => by
        obtain ⟨b, e1, e2, _, _⟩ := r2.par 0 c' rfl
        have e3 : a = b := by
          have z : (some (some (V.ref a)) : Option (Option V)) = some (some (V.ref b)) := e1
          injection z with z; injection z with z; injection z with z
        subst e3
        exact r1.chg hc ha r2.f0 r2.sub e2 (fun b o e n => r2.h0 b o e fun z => n (by simpa using z)) r2.nw
      refine ⟨F1, [a], some (.p c) :: argsD xs, _, _, r1.argsP oa reps, q, fun v F2 H2 sd α' r2 sr q2 => ?_, fun F2 H2 α' C dd f v y r2 hd hz rep q2 => ?_⟩
      · obtain ⟨c', τ, rfl, q3⟩ := hdP (R := fun c' => Q sd (keepKind δ1 n c')) q2
        obtain ⟨r3, s3⟩ := step r2
        refine pp v F2 H2 sd _ r3 (s1.trans s3) ?_ q3
        cases sd with
        | d x => exact sr
        | p c => exact sr.elim
        | o c =>
          obtain ⟨b, e1, e2, _, _, e5⟩ := sr
          exact ⟨b, e1, e2, fun z => r1.now e5 (s3.o b z), r1.hnone e5, s1.past e5⟩
      · obtain ⟨c', τ, rfl, q3⟩ := hdP (R := fun c' => E C f y (keepKind δ1 n c')) q2
        obtain ⟨r3, s3⟩ := step r2
        exact xl F2 H2 _ C dd f v y r3 hd (r1.hnone hz) rep q3
    · exact q.elim
end
end DL
namespace DL
open PySem L2
abbrev eF (w : WE) : WF := fun δ Q E => w δ (fun sd δ' => Q sd.fz δ') E
abbrev fO (w : WF) : WO := fun δ Q E => w δ (fun x δ' => Q (.x x) δ') E
abbrev fS (w : WF) : WE := fun δ Q E => w δ (fun x δ' => Q (.d x) δ') E
abbrev wNeg (w : WF) : WF := fun δ Q E => w δ (fun x δ' => match x with | .int i => Q (.int (-i)) δ' | _ => False) E
section
variable {Φ : Fam} {W : WX} {k : Nat} {e a o : Expr} {es : List Expr} {pos p pos2 apos p1 p2 p3 : Pos} {nm f : Str} {C : Addr}
def IsErr (P : Program) (K : PySem.W.Frag) (mg : Str → Option Value) (nm f : Str) (C : Addr) : Prop := ∃ qi fI, EX.ETxt P K mg nm qi f C fI
theorem c_raise (Cx : Cz Φ W k) (T : ∀ i, IsErr (Φ.X i).prog (Φ.X i).K (Φ.X i).mg nm f C) {w : WL} (ha : DA Φ W [a] w)
    (hg : ∀ i, Gl (Φ.X i) nm := by intro _; rfl) (hdb : (nm == ("__debug__" : Str)) = false := by decide) (he : ∀ i, starEach (a :: []) (Φ.X i).env = (false, eval a (Φ.X i).env) :: starEach [] (Φ.X i).env := by intro _; rfl)
    (hpl : ∀ i, (backTo pos (starEach [] (Φ.X i).env)).any (·.1) = false := by intro _; rfl) : DS Φ W (.Raise (some (.Call (.Name nm p) [a] [] pos)) none pos2) (wRaise C f w) := by
  obtain ⟨t, h1, h2⟩ := ha
  refine ⟨fun D σ H => tErr C f t σ H fun cls d H' => W cls d σ H', fun i => ?_, fun B F H σ δ M E D r hw l xl => ?_⟩
  · obtain ⟨qi, fI, T⟩ := T i
    exact ps_raise (Cx.calm i) (Cx.tk i) (pmk_err T (Cx.hr i) (h1 i) (hg i) hdb (he i) (hpl i))
  · refine h2 B F H σ δ _ E _ r hw (fun vs F1 H1 xs δ1 r1 s1 reps q => ?_) (xl σ)
    split at q
    · cases reps with
      | cons rv rn =>
        cases rn
        exact ⟨_, rfl, fun d hd => xl σ F1 _ δ1 C d f _ _ (r1.lay hd) upd_same (r1.hnone hd) rv q⟩
    · exact q.elim
def nonB : D → Option Bool
  | .non => some true
  | .vv _ => none
  | .at _ _ => none
  | _ => some false
theorem PR.nonB {K : PySem.W.Frag} {F H : Hp} {v : V} {x : D} {b : Bool} (r : PR K F H v x) (h : nonB x = some b) : decide (v = .non) = b := by
  have hn : ∀ a, decide (V.ref a = .non) = false := fun a => decide_eq_false fun z => by cases z
  rcases r with r | ⟨a, c, rfl, rfl, _⟩
  · cases r <;> first | (cases h; first | rfl | exact hn _ | exact decide_eq_false fun z => (nomatch z)) | (cases h)
  · cases c <;> (cases h; exact hn a)
def sIsN (neg : Bool) : S1 := fun x Q => match nonB x with
  | some b => Q (.d (.bl (neg ^^ b)))
  | none => False
def wIsN (neg : Bool) (w : WO) : WE := fun δ Q E => w δ (fun o δ1 => match view δ1 o with
  | some x => sIsN neg x (fun sd => Q sd δ1)
  | none => False) E
theorem isN_run {neg : Bool} {w : WO} {t : TE} {r : V → V → Hp → VK → Prop} (hr : ∀ x H Q, Q (.bl (neg ^^ decide (x = .non))) H → r x .non H Q)
    (h2 : ∀ (B : Bs) (F H : Hp) (σ : St) (δ : Dl) (Q : Op → Dl → Prop) (E : XQ) (Qh : VK), RB Φ.K B F H σ δ → w δ Q E → PostO Φ.K B σ δ F H Q Qh → XL Φ.K B W σ E → t σ H Qh) :
    ∀ (B : Bs) (F H : Hp) (σ : St) (δ : Dl) (Q : SD → Dl → Prop) (E : XQ) (Qh : VK), RB Φ.K B F H σ δ → wIsN neg w δ Q E → Post Φ.K B σ δ F H Q Qh → XL Φ.K B W σ E → tOp r t (tC .non) σ H Qh := by
  intro B F H σ δ Q E Qh rb hw pp xl
  refine h2 B F H σ δ _ E _ rb hw (fun v F1 H1 o δ1 r1 s1 v1 q => ?_) xl
  split at q
  · rename_i x ex
    unfold sIsN at q
    split at q
    · rename_i b eb
      refine hr v H1 Qh ?_
      rw [(r1.view v1 ex).nonB eb]
      exact pp _ F1 H1 (.d _) δ1 r1 s1 (.bl _) q
    · exact q.elim
  · exact q.elim
def sListD : S1 := fun x Q => match x with
  | .dic kvs => Q (.o (.l (kvs.map fun p => dKey p.1)))
  | _ => False
theorem repKeys {K : PySem.W.Frag} {F : Hp} : ∀ {vs : List (Key × V)} {ds : List (Key × D)}, RepK K F vs ds → RepL K F (vs.map fun p => kV p.1) (ds.map fun p => dKey p.1)
  | _, _, .nil => .nil
  | _, _, .cons h r => .cons (repKey _) (repKeys r)
theorem cd_listD (hc : ∀ i, (Φ.X i).calm = true) : CallD Φ (.type "list") sListD := by
  refine ⟨rListD, fun i => call_list_dK (hc i), fun B F H σ δ x v Q Qh r hx hs p => ?_⟩
  unfold sListD at hs
  split at hs
  · rename_i kvs
    obtain ⟨a, vs, rfl, h1, h2⟩ := hx.dic r.sub
    exact ⟨a, vs, rfl, h1, fun q hq => p.lst r (repKeys h2) hs q hq⟩
  · exact hs.elim
def wMin2 (w : WL) : WE := fun δ Q E => w δ (fun xs δ' => match xs with
  | [.int i, .int j] => Q (.d (.int (if j < i then j else i))) δ'
  | _ => False) E
def wMax2 (w : WL) : WE := fun δ Q E => w δ (fun xs δ' => match xs with
  | [.int i, .int j] => Q (.d (.int (if j > i then j else i))) δ'
  | _ => False) E
theorem de_min2 {b : Expr} {w : WL} (hc : ∀ i, (Φ.X i).calm = true) (hm : ∀ i, (Φ.X i).mg "min" = none) (ha : DA Φ W [a, b] w) (hg : ∀ i, Gl (Φ.X i) "min" := by intro _; rfl) (he : ∀ i, starEach [a, b] (Φ.X i).env = (false, eval a (Φ.X i).env) :: starEach [b] (Φ.X i).env := by intro _; rfl)
    (hpl : ∀ i, (backTo pos (starEach [b] (Φ.X i).env)).any (·.1) = false := by intro _; rfl) : DE Φ W (.Call (.Name "min" p) [a, b] [] pos) (wMin2 w) := by
  obtain ⟨t, h1, h2⟩ := ha
  refine ⟨_, fun i => pe_callB (call_min2 (hc i)) (hg i) (hm i) (by decide +kernel) (h1 i) (by decide) (by decide) (he i) (hpl i), fun B F H σ δ Q E Qh r hw pp xl => h2 B F H σ δ _ E _ r hw (fun vs F1 H1 xs δ1 r1 s1 reps q => ?_) xl⟩
  split at q
  · cases reps with
    | cons r1' rr =>
      cases rr with
      | cons r2' rr =>
        cases rr; cases r1'; cases r2'
        exact ⟨_, _, rfl, pp _ F1 H1 (.d _) δ1 r1 s1 (.int _) q⟩
  · exact q.elim
def wRev (w : WO) : WE := fun δ Q E => w δ (fun o δ1 => match view δ1 o with
  | some (.lst xs) => Q (.o (.l xs.reverse)) δ1
  | _ => False) E
theorem RepL.rev {K : PySem.W.Frag} {F : Hp} : ∀ {vs : List V} {ds : List D}, RepL K F vs ds → RepL K F vs.reverse ds.reverse
  | _, _, .nil => .nil
  | _, _, .cons h r => by
    rw [List.reverse_cons, List.reverse_cons]
    exact r.rev.app (.cons h .nil)
theorem de_rev {j : Nat} {w : WO} (ha : DO Φ W e w) : DE Φ W (.Subscript e (.Slice none none (some (.UnaryOp .USub (.Constant (.int 1) j p1) p2)) p3) pos) (wRev w) := by
  obtain ⟨t, h1, h2⟩ := ha
  refine ⟨tRevL Φ.K t, fun i => by rw [← Φ.hK i]; exact pe_revL (h1 i), fun B F H σ δ Q E Qh r hw pp xl => ?_⟩
  refine h2 B F H σ δ _ E _ r hw (fun v F1 H1 o δ1 r1 s1 v1 q => ?_) xl
  split at q
  · rename_i xs ex
    obtain ⟨a, vs, rfl, g1, g2⟩ := (r1.view v1 ex).lst r1.sub
    exact ⟨a, vs, rfl, .of g1, fun q' hq => (pp.after s1).lst r1 g2.rev q q' hq⟩
  · exact q.elim
end
end DL
namespace DL
open PySem L2
def IsMk (P : Program) (w : World) (K : PySem.W.Frag) (mg : Str → Option Value) (base : Heap) (x : Str) (C : Addr) (k : Nat) (ps : List Str) (n : Nat) (ds : DSp) : Prop :=
  ∃ g fd, mg x = some (.ref C) ∧ Mk K C g ∧ Binds K fd ps (List.replicate n Value.none) ∧ FnOk P w K mg base (L2.CX P w) k g fd ps (toSp K ds)
def IsMeth (P : Program) (w : World) (K : PySem.W.Frag) (mg : Str → Option Value) (base : Heap) (C : Addr) (m : Str) (k : Nat) (ps : List Str) (n : Nat) (ds : DSp) : Prop :=
  ∃ g fd, Cls K C ∧ Meth K C m g ∧ Binds K fd ps (List.replicate n Value.none) ∧ FnOk P w K mg base (L2.CX P w) k g fd ps (toSp K ds)
section
variable {Φ : Fam} {W : WX} {k j : Nat} {e a b c o : Expr} {es : List Expr} {pos p pos2 apos p1 p2 p3 : Pos} {x m : Str} {C : Addr} {ps : List Str} {ds : DSp}
theorem make_run {n : Nat} {w : WL} {t : TA} (h2 : ∀ (B : Bs) (F H : Hp) (σ : St) (δ : Dl) (Q : List D → Dl → Prop) (E : XQ) (Qh : List V → Hp → Prop), RB Φ.K B F H σ δ → w δ Q E → (∀ vs F' H' xs δ', RB Φ.K B F' H' σ δ' → Stp σ δ δ' F H F' H' → RepL Φ.K F' vs xs → Q xs δ' → Qh vs H') → XL Φ.K B W σ E → t σ H Qh) :
    ∀ (B : Bs) (F H : Hp) (σ : St) (δ : Dl) (Q : SD → Dl → Prop) (E : XQ) (Qh : VK), RB Φ.K B F H σ δ → wMake ds C n w δ Q E → Post Φ.K B σ δ F H Q Qh → XL Φ.K B W σ E → tMakeE C (toSp Φ.K ds) (List.replicate n V.non) (fun σ => L2.WE W σ) t σ H Qh := by
  intro B F H σ δ Q E Qh r hw pp xl
  refine h2 B F H σ δ _ E _ r hw (fun vs F1 H1 xs δ1 r1 s1 reps q => ?_) xl
  intro y dx hy hdx ne
  have e1 : upd H1 dx (.own y) y = none := by rw [upd_ne (Ne.symm ne)]; exact hy
  have ext : ∀ b o, H1 b = some o → upd (upd H1 dx (.own y)) y (.ins C dx []) b = some o := fun b o e => by
    rw [upd_ne (ne_of_none e hy), upd_ne (ne_of_none e hdx)]; exact e
  have r2 := (r1.lay (ho := .own y) hdx).lay (ho := .ins C dx []) e1
  have hn2 : ∀ {b}, upd (upd H1 dx (.own y)) y (.ins C dx []) b = none → H1 b = none := fun {b} z => by
    cases u : H1 b with
    | none => rfl
    | some o => rw [ext _ _ u] at z; cases z
  refine ⟨F1, [y], some (.p (.ob C [])) :: argsD (xs ++ nons n), _, _, r2.argsP (c := .ob C []) ⟨r1.fnone hy, _, upd_same, rfl, .nil⟩ (reps.app (repNons n)), q, fun v F3 H3 sd α' r3 sr q3 => ?_, fun F3 H3 α' C dd f v z r3 hd hz rp q3 => ?_⟩
  · obtain ⟨r4, s4⟩ := r1.backN ext hy r3
    obtain ⟨C', fs, τ, rfl, rfl, q4⟩ := hdO (R := fun C' fs => sd = .d .non ∧ Q (.o (.ob C' fs)) δ1) q3
    refine ⟨?_, ?_⟩
    · cases sr; rfl
    · obtain ⟨b, g1, g2, _, _⟩ := r3.par 0 _ rfl
      have g3 : y = b := by
        have z : (some (some (V.ref y)) : Option (Option V)) = some (some (V.ref b)) := g1
        injection z with z; injection z with z; injection z with z
      subst g3
      exact pp _ F3 H3 (.o (.ob C' fs)) δ1 r4 (s1.trans s4) ⟨y, rfl, g2, r1.now hy, r1.hnone hy, s1.past hy⟩ q4
  · obtain ⟨r4, s4⟩ := r1.backN ext hy r3
    exact xl F3 H3 δ1 C dd f v z r4 hd (r1.hnone (hn2 hz)) rp q3
theorem meth_run {n : Nat} {wo : WF} {w : WL} {to : TE} {t : TA} (o2 : ∀ (B : Bs) (F H : Hp) (σ : St) (δ : Dl) (Q : D → Dl → Prop) (E : XQ) (Qh : VK), RB Φ.K B F H σ δ → wo δ Q E → PostF Φ.K B σ δ F H Q Qh → XL Φ.K B W σ E → to σ H Qh) (h2 : ∀ (B : Bs) (F H : Hp) (σ : St) (δ : Dl) (Q : List D → Dl → Prop) (E : XQ) (Qh : List V → Hp → Prop), RB Φ.K B F H σ δ → w δ Q E → (∀ vs F' H' xs δ', RB Φ.K B F' H' σ δ' → Stp σ δ δ' F H F' H' → RepL Φ.K F' vs xs → Q xs δ' → Qh vs H') → XL Φ.K B W σ E → t σ H Qh) :
    ∀ (B : Bs) (F H : Hp) (σ : St) (δ : Dl) (Q : SD → Dl → Prop) (E : XQ) (Qh : VK), RB Φ.K B F H σ δ → wMeth ds C m n wo w δ Q E → Post Φ.K B σ δ F H Q Qh → XL Φ.K B W σ E → tMethE C m (toSp Φ.K ds) (List.replicate n V.non) (fun σ => L2.WE W σ) to t σ H Qh := by
  intro B F H σ δ Q E Qh r hw pp xl
  refine o2 B F H σ δ _ E _ r hw (fun v F1 H1 o δ1 r1 s1 rep q => ?_) xl
  split at q
  · rename_i C' fs
    obtain ⟨rfl, hl, q⟩ := q
    obtain ⟨a, dx, vs0, rfl, ha, rf⟩ := objRep rep
    refine ⟨a, dx, vs0, rfl, r1.sub _ _ ha, rf.lookup_none hl, ?_⟩
    refine h2 B F1 H1 σ δ1 _ E _ r1 q (fun vs F2 H2 xs δ2 r2 s2 reps q2 => ?_) xl
    refine ⟨F2, [], argsD (.obj C' fs :: (xs ++ nons n)), _, _, r2.args (.cons (rep.mono s2.f) (reps.app (repNons n))), q2, fun v F3 H3 sd α' r3 sr q3 => ?_, fun F3 H3 α' C dd f v y r3 hd hz rp q3 => ?_⟩
    · obtain ⟨r4, s4⟩ := r2.back r3
      exact pp v F3 H3 sd δ2 r4 ((s1.trans s2).trans s4) ((SR.back r2 r4 s4 sr).old fun _ z => (s1.trans s2).past z) q3
    · obtain ⟨r4, s4⟩ := r2.back r3
      exact xl F3 H3 δ2 C dd f v y r4 hd (r2.hnone hz) rp q3
  · exact q.elim
theorem c_make (Cx : Cz Φ W k) (n : Nat) (M : ∀ i, IsMk (Φ.X i).prog (Φ.X i).w (Φ.X i).K (Φ.X i).mg (Φ.X i).base x C j ps n ds) {w : WL} (ha : DA Φ W (e :: es) w) (hj : j + 1 ≤ k := by decide)
    (hg : ∀ i, Gl (Φ.X i) x := by intro _; rfl) (hdb : (x == ("__debug__" : Str)) = false := by decide) (he : ∀ i, starEach (e :: es) (Φ.X i).env = (false, eval e (Φ.X i).env) :: starEach es (Φ.X i).env := by intro _; rfl) (hpl : ∀ i, (backTo pos (starEach es (Φ.X i).env)).any (·.1) = false := by intro _; rfl) :
    DE Φ W (.Call (.Name x p) (e :: es) [] pos) (wMake ds C n w) := by
  obtain ⟨t, h1, h2⟩ := ha
  refine ⟨tMakeE C (toSp Φ.K ds) (List.replicate n V.non) (fun σ => L2.WE W σ) t, fun i => ?_, make_run h2⟩
  obtain ⟨g, fd, g1, g2, g3, g4⟩ := M i
  rw [← Φ.hK i]
  exact pe_makeE g2 g4 (Cx.rm hj i) (hg i) g1 g3 (valsNons n) (fun σ => passAt (Cx.tk i) σ) (h1 i) hdb (he i) (hpl i)
theorem c_meth (Cx : Cz Φ W k) (n : Nat) (M : ∀ i, IsMeth (Φ.X i).prog (Φ.X i).w (Φ.X i).K (Φ.X i).mg (Φ.X i).base C m j ps n ds) {pl : Φ.ι → Sem Bool} {wo : WF} {w : WL} (ho : DF Φ W o wo) (ha : DA Φ W (e :: es) w) (hj : j ≤ k := by decide)
    (hst : ∀ i, starEach (e :: es) (Φ.X i).env = (false, eval e (Φ.X i).env) :: starEach es (Φ.X i).env := by intro _; rfl) (hpl : ∀ i, (backTo pos (starEach es (Φ.X i).env)).any (·.1) = false := by intro _; rfl)
    (ht : ∀ i, eval (.Call (.Attribute o m apos) (e :: es) [] pos) (Φ.X i).env = (do
      let ov ← eval o (Φ.X i).env
      standAt apos.atName
      let (g, first) ← holding [ov] (getMethod ov m (pl i))
      callWith pos g first (backTo pos (starEach (e :: es) (Φ.X i).env)) (backToKw pos (keywordEach [] (Φ.X i).env))) := by intro _; rfl) :
    DE Φ W (.Call (.Attribute o m apos) (e :: es) [] pos) (wMeth ds C m n wo w) := by
  obtain ⟨to, o1, o2⟩ := ho
  obtain ⟨t, h1, h2⟩ := ha
  refine ⟨tMethE C m (toSp Φ.K ds) (List.replicate n V.non) (fun σ => L2.WE W σ) to t, fun i => ?_, meth_run o2 h2⟩
  obtain ⟨g, fd, g1, g2, g3, g4⟩ := M i
  rw [← Φ.hK i]
  exact pe_methE (pl := pl i) (o1 i) g1 g2 g4 (Cx.rm hj i) g3 (valsNons n) (fun σ => passAt (Cx.tk i) σ) (h1 i) (hst i) (hpl i) (ht i)
theorem c_meth0 (Cx : Cz Φ W k) (n : Nat) (M : ∀ i, IsMeth (Φ.X i).prog (Φ.X i).w (Φ.X i).K (Φ.X i).mg (Φ.X i).base C m j ps n ds) {pl : Φ.ι → Sem Bool} {wo : WF} (ho : DF Φ W o wo) (hj : j ≤ k := by decide)
    (ht : ∀ i, eval (.Call (.Attribute o m apos) [] [] pos) (Φ.X i).env = (do
      let ov ← eval o (Φ.X i).env
      standAt apos.atName
      let (g, first) ← holding [ov] (getMethod ov m (pl i))
      callWith pos g first (backTo pos (starEach [] (Φ.X i).env)) (backToKw pos (keywordEach [] (Φ.X i).env))) := by intro _; rfl) :
    DE Φ W (.Call (.Attribute o m apos) [] [] pos) (wMeth ds C m n wo wNil) := by
  obtain ⟨to, o1, o2⟩ := ho
  refine ⟨tMethE C m (toSp Φ.K ds) (List.replicate n V.non) (fun σ => L2.WE W σ) to tNil, fun i => ?_, meth_run o2 (fun B F H σ δ Q E Qh r hw p _ => p [] F H [] δ r .refl .nil hw)⟩
  obtain ⟨g, fd, g1, g2, g3, g4⟩ := M i
  rw [← Φ.hK i]
  exact pe_methE0 (pl := pl i) (o1 i) g1 g2 g4 (Cx.rm hj i) g3 (valsNons n) (fun σ => passAt (Cx.tk i) σ) (ht i)
theorem de_indexM {wa wb : WO} (ho : DO Φ W o wa) (ha : DO Φ W e wb)
    (hbase : ∀ i, attributeBase o "index" (Φ.X i).env (eval o (Φ.X i).env) = eval o (Φ.X i).env := by intro _; rfl)
    (hfew : ∀ i, ((backTo pos (starEach [e] (Φ.X i).env)).all (fun x => !x.1) && (backToKw pos (keywordEach [] (Φ.X i).env)).all (fun x => x.1.isSome)
      && decide ([e].length + ([] : List Keyword).length + (if ([] : List Keyword).isEmpty then 0 else 1) < 30)) = true := by intro _; rfl)
    (hline : (apos.endLine == pos.line) = true := by rfl) (hs : ∀ i, starEach [e] (Φ.X i).env = (false, eval e (Φ.X i).env) :: starEach [] (Φ.X i).env := by intro _; rfl) (hplain : ∀ i, (backTo pos (starEach [] (Φ.X i).env)).any (·.1) = false := by intro _; rfl) :
    DE Φ W (.Call (.Attribute o "index" apos) [e] [] pos) (wMet "list" sIndex wa wb) := de_met PySem.F.plainAttrs_list PySem.F.slot_list_index PySem.F.type_list_index md_index ho ha hbase hfew hline hs hplain
theorem de_joinM {wa wb : WO} (ho : DO Φ W o wa) (ha : DO Φ W e wb)
    (hbase : ∀ i, attributeBase o "join" (Φ.X i).env (eval o (Φ.X i).env) = eval o (Φ.X i).env := by intro _; rfl)
    (hfew : ∀ i, ((backTo pos (starEach [e] (Φ.X i).env)).all (fun x => !x.1) && (backToKw pos (keywordEach [] (Φ.X i).env)).all (fun x => x.1.isSome)
      && decide ([e].length + ([] : List Keyword).length + (if ([] : List Keyword).isEmpty then 0 else 1) < 30)) = true := by intro _; rfl)
    (hline : (apos.endLine == pos.line) = true := by rfl) (hs : ∀ i, starEach [e] (Φ.X i).env = (false, eval e (Φ.X i).env) :: starEach [] (Φ.X i).env := by intro _; rfl) (hplain : ∀ i, (backTo pos (starEach [] (Φ.X i).env)).any (·.1) = false := by intro _; rfl) :
    DE Φ W (.Call (.Attribute o "join" apos) [e] [] pos) (wMet "str" sJoin wa wb) := de_met PySem.F.plainAttrs_str PySem.F.slot_str_join PySem.F.type_str_join md_join ho ha hbase hfew hline hs hplain
def tyD : D → Option Value
  | .obj C _ => some (.ref C)
  | x => (tyName x).map .type
structure IsiC (K : PySem.W.Frag) (C : Addr) : Prop where
  cl : Cls K C
  ha : PySem.W.findIn K (.ref C) "__class__" = some (some (.builtin "object.__class__"))
  hn : PySem.W.specialIn K (.builtin "object.__class__") "__get__" = some (some (.builtin "getset_descriptor.__get__"))
  htk : PySem.W.takesIn K (.builtin "object.__class__") = some true
  hm : PySem.W.mroIn K C (.type "object") = some true
def wIsiC (C : Addr) (K : PySem.W.Frag) (w : WO) : WE := fun δ Q E => w δ (fun o δ1 => match (view δ1 o).bind tyD with
  | some t => ∃ b, PySem.W.kitOne K t (.ref C) = some b ∧ (∀ C', t = .ref C' → C' = C) ∧ Q (.d (.bl b)) δ1
  | none => False) E
theorem tyX_of {K : PySem.W.Frag} {F H : Hp} {v : V} {d : D} {t : Value} (s : Same F H) (r : PR K F H v d) (h : tyD d = some t) (hc : ∀ C', t = .ref C' → IsiC K C') : TyX K H v t := by
  cases d with
  | obj C fs =>
    cases h
    obtain ⟨a, dx, vs, rfl, h1, _⟩ := r.obj s
    obtain ⟨cl, ha, hn, htk, hm⟩ := hc C rfl
    exact .base (.ins h1 cl ha hn htk hm)
  | non | bl _ | int _ | str _ | lst _ | tup _ | dic _ | dct _ => cases h; exact r.ty s rfl
  | scr _ | vv _ | exc _ _ _ _ _ | «at» _ _ => cases h
theorem de_isiC {w : WO} (I0 : IsiC Φ.K C) (ha : DO Φ W a w) (hm : ∀ i, (Φ.X i).mg "isinstance" = none) (hmx : ∀ i, (Φ.X i).mg x = some (.ref C)) (hg : ∀ i, Gl (Φ.X i) "isinstance" := by intro _; rfl) (hgx : ∀ i, Gl (Φ.X i) x := by intro _; rfl)
    (hd : (x == ("__debug__" : Str)) = false := by decide)
    (he : ∀ i, starEach [a, .Name x p2] (Φ.X i).env = (false, eval a (Φ.X i).env) :: starEach [.Name x p2] (Φ.X i).env := by intro _; rfl) (he2 : ∀ i, starEach [.Name x p2] (Φ.X i).env = (false, eval (.Name x p2) (Φ.X i).env) :: starEach [] (Φ.X i).env := by intro _; rfl)
    (hpl : ∀ i, (backTo pos (starEach [.Name x p2] (Φ.X i).env)).any (·.1) = false := by intro _; rfl) :
    DE Φ W (.Call (.Name "isinstance" p) [a, .Name x p2] [] pos) (wIsiC C Φ.K w) := by
  obtain ⟨t, h1, h2⟩ := ha
  refine ⟨tCB (rIsi Φ.K) (tCons t (tCons (tC (.ref C)) tNil)), fun i => by
    have h := call_isi (X := Φ.X i)
    rw [Φ.hK i] at h
    exact pe_callB h (hg i) (hm i) (by decide +kernel) (pa_cons (h1 i) (pa_cons (pe_glob (v := .ref C) (hgx i) (hmx i) rfl hd) pa_nil (he2 i)) (he i)) (by decide) (by decide) (he i) (hpl i), fun B F H σ δ Q E Qh r hw pp xl => ?_⟩
  refine h2 B F H σ δ _ E _ r hw (fun v F1 H1 o δ1 r1 s1 v1 q => ?_) xl
  split at q
  · rename_i t et
    obtain ⟨b, hb, hc, q⟩ := q
    cases ed : view δ1 o with
    | none => rw [ed] at et; cases et
    | some d =>
      rw [ed] at et
      have ty := tyX_of r1.sub (r1.view v1 ed) et fun C' e => by rw [hc C' e]; exact I0
      exact ⟨v, .ref C, t, .ref C, b, rfl, .own C, ty, hb, pp _ F1 H1 (.d _) δ1 r1 s1 (.bl _) q⟩
  · exact q.elim
end
end DL
namespace DL
open PySem L2
section
variable {Φ : Fam} {W : WX} {a b c e tg : Expr} {pos : Pos}
abbrev WL3 := Dl → (SD → SD → SD → Dl → Prop) → XQ → Prop
def wThree (wa wb wc : WE) : WL3 := fun δ Q E => wa δ (fun x δ1 => wb δ1 (fun y δ2 => wc δ2 (fun z δ3 => Q x y z δ3) E) E) E
def wPar3 (i j l : Nat) (w : WL3) : WS := fun M E δ => w δ (fun x y z δ' => i < δ'.length ∧ j < δ'.length ∧ l < δ'.length ∧ M.nx (((δ'.set i (some x)).set j (some y)).set l (some z))) E
theorem ds_par3 (i j l : Nat) {x y z : Str} {px py pz pt : Pos} {kt k2 : Nat} {pt2 : Pos} {wa wb wc : WE} (hc : ∀ k, (Φ.X k).calm = true) (hN : ∀ k, (Φ.X k).N.Nodup) (ha : DE Φ W a wa) (hb : DE Φ W b wb) (hcc : DE Φ W c wc)
    (hw : ∀ k, swappedStores [.Tuple [.Name x px, .Name y py, .Name z pz] kt pt] (.Tuple [a, b, c] k2 pt2) (Φ.X k).env = pure (some [x, y, z]))
    (hi : ∀ k, (Φ.X k).N[i]? = some x := by intro _; rfl) (hj : ∀ k, (Φ.X k).N[j]? = some y := by intro _; rfl) (hl : ∀ k, (Φ.X k).N[l]? = some z := by intro _; rfl) (hij : i ≠ j := by decide) (hil : i ≠ l := by decide) (hjl : j ≠ l := by decide)
    (hx : ∀ k, (Φ.X k).env.scope.names.lookup x = some .local := by intro _; rfl) (hy : ∀ k, (Φ.X k).env.scope.names.lookup y = some .local := by intro _; rfl) (hz : ∀ k, (Φ.X k).env.scope.names.lookup z = some .local := by intro _; rfl)
    (hs : ∀ i, starEach [a, b, c] (Φ.X i).env = (false, eval a (Φ.X i).env) :: starEach [b, c] (Φ.X i).env := by intro _; rfl) (hs2 : ∀ i, starEach [b, c] (Φ.X i).env = (false, eval b (Φ.X i).env) :: starEach [c] (Φ.X i).env := by intro _; rfl)
    (hs3 : ∀ i, starEach [c] (Φ.X i).env = (false, eval c (Φ.X i).env) :: starEach [] (Φ.X i).env := by intro _; rfl)
    (hss : ∀ k, swapsWithSole [.Tuple [.Name x px, .Name y py, .Name z pz] kt pt] (.Tuple [a, b, c] k2 pt2) pos.line (Φ.X k).env = pure false := by intro _; rfl) :
    DS Φ W (.Assign [.Tuple [.Name x px, .Name y py, .Name z pz] kt pt] (.Tuple [a, b, c] k2 pt2) pos) (wPar3 i j l (wThree wa wb wc)) := by
  obtain ⟨t1, a1, a2⟩ := ha
  obtain ⟨t2, b1, b2⟩ := hb
  obtain ⟨t3, c1, c2⟩ := hcc
  refine ⟨_, fun k => ps_par3 (hc k) (hN k) (hi k) (hj k) (hl k) hij hil hjl (hx k) (hy k) (hz k) (pa_cons (a1 k) (pa_cons (b1 k) (pa_cons (c1 k) pa_nil (hs3 k)) (hs2 k)) (hs k)) (hw k) (hss k), fun B F H σ δ M E D r hwp lk xl => ?_⟩
  refine a2 B F H σ δ _ E _ r hwp (fun u F1 H1 su δ1 r1 s1 q1 w1 => ?_) (xl σ)
  refine b2 B F1 H1 σ δ1 _ E _ r1 w1 (fun v F2 H2 sv δ2 r2 s2 q2 w2 => ?_) (xl σ)
  refine c2 B F2 H2 σ δ2 _ E _ r2 w2 (fun w F3 H3 sw δ3 r3 s3 q3 w3 => ?_) (xl σ)
  obtain ⟨l1, l2, l3, w3⟩ := w3
  have u3 := q1.step (s2.trans s3)
  have v3 := (q2.step s3).old (H0 := H) fun _ z => s1.past z
  have z3 := q3.old (H0 := H) fun _ z => (s1.trans s2).past z
  have uv := q1.apart q2
  have vw := q2.apart q3
  have uw := (q1.step s2).apart q3
  have ra := r3.put u3 l1
  have va := SR.beside r3 l1 u3 v3 uv
  have wa' := SR.beside r3 l1 u3 z3 uw
  have rb := ra.put va (by rw [List.length_set]; exact l2)
  have wb' := SR.beside ra (by rw [List.length_set]; exact l2) va wa' vw
  exact ⟨u, v, w, rfl, lk.nx _ _ _ _ (rb.put wb' (by rw [List.length_set, List.length_set]; exact l3)) w3⟩
end
end DL
namespace DL
open PySem L2
section
variable {Φ : Fam} {W : WX} {a b c e i o tg : Expr} {pos p : Pos}
theorem inD_run {neg : Bool} {wo wi : WO} {t u : TE} {r : TE → TE → TE} (hr : ∀ (σ : St) (H : Hp) (Q : VK), (u σ H fun y H1 => t σ H1 fun x H2 => ∃ a o, x = .ref a ∧ DGet H2 a y o ∧ Q (.bl (neg ^^ o.isSome)) H2) → r u t σ H Q)
    (a2 : ∀ (B : Bs) (F H : Hp) (σ : St) (δ : Dl) (Q : Op → Dl → Prop) (E : XQ) (Qh : VK), RB Φ.K B F H σ δ → wo δ Q E → PostO Φ.K B σ δ F H Q Qh → XL Φ.K B W σ E → t σ H Qh)
    (b2 : ∀ (B : Bs) (F H : Hp) (σ : St) (δ : Dl) (Q : Op → Dl → Prop) (E : XQ) (Qh : VK), RB Φ.K B F H σ δ → wi δ Q E → PostO Φ.K B σ δ F H Q Qh → XL Φ.K B W σ E → u σ H Qh) :
    ∀ (B : Bs) (F H : Hp) (σ : St) (δ : Dl) (Q : SD → Dl → Prop) (E : XQ) (Qh : VK), RB Φ.K B F H σ δ → wInD neg wi wo δ Q E → Post Φ.K B σ δ F H Q Qh → XL Φ.K B W σ E → r u t σ H Qh := by
  intro B F H σ δ Q E Qh r0 hw pp xl
  refine hr σ H Qh (b2 B F H σ δ _ E _ r0 hw (fun v F1 H1 o1 δ1 r1 s1 v1 q1 => ?_) xl)
  refine a2 B F1 H1 σ δ1 _ E _ r1 q1 (fun w F2 H2 o2 δ2 r2 s2 v2 q2 => ?_) xl
  split at q2
  · rename_i k kvs e2 e1
    obtain ⟨y, e3, e4⟩ := bindKey e2
    obtain ⟨a, vs, rfl, h1, h2⟩ := (r2.view v2 e1).dic r2.sub
    obtain rfl := (r2.view (OpV.step s2.f v1) e3).key e4
    refine ⟨a, _, rfl, DGet.k h1, ?_⟩
    rw [val_some h2 k]
    exact pp _ F2 H2 (.d _) δ2 r2 (s1.trans s2) (.bl _) q2
  · exact q2.elim
theorem asB_post {w : WE} {t : TE} (h : ∀ (B : Bs) (F H : Hp) (σ : St) (δ : Dl) (Q : SD → Dl → Prop) (E : XQ) (Qh : VK), RB Φ.K B F H σ δ → w δ Q E → Post Φ.K B σ δ F H Q Qh → XL Φ.K B W σ E → t σ H Qh) :
    ∀ (B : Bs) (F H : Hp) (σ : St) (δ : Dl) (Q : Bool → Dl → Prop) (E : XQ) (Qh : Bool → Hp → Prop), RB Φ.K B F H σ δ → wB w δ Q E → PostT Φ.K B σ δ F H Q Qh → XL Φ.K B W σ E → tB t σ H Qh :=
  fun B F H σ δ Q E Qh r hw p x => h B F H σ δ _ E _ r hw (fun v F' H' sd δ' r' s' sr q => let ⟨k, e1, e2⟩ := asB_ok sr q; ⟨k, e1, p k F' H' δ' r' s' e2⟩) x
theorem dt_notinD {wo wi : WO} (hu : ∀ i, (Φ.X i).A.units + 64 < cLine) (hi : DO Φ W i wi) (ho : DO Φ W o wo) (hm : behindInMarks .NotIn o = false) : DT Φ W (.Compare i [.NotIn] [o] pos) (wB (wInD true wi wo)) := by
  obtain ⟨t, a1, a2⟩ := ho
  obtain ⟨u, b1, b2⟩ := hi
  exact ⟨_, fun j => pt_cmp (pc_dnotin (by have := hu j; omega) (b1 j) (a1 j)) hm, asB_post (inD_run (r := tDNotIn) (neg := true) (fun σ H Q h => by simpa [tDNotIn] using h) a2 b2)⟩
theorem dt_isN0 {j : Nat} {w : WO} (ha : DO Φ W a w) : DT Φ W (.Compare a [.Is] [.Constant .none j p] pos) (wB (wIsN false w)) := by
  obtain ⟨t, h1, h2⟩ := ha
  exact ⟨_, fun i => pt_cmpR op_isN (h1 i) pe_non rfl, asB_post (isN_run (fun x H Q q => ⟨rfl, by simpa using q⟩) h2)⟩
theorem dt_isN1 {j : Nat} {w : WO} (ha : DO Φ W a w) : DT Φ W (.Compare a [.IsNot] [.Constant .none j p] pos) (wB (wIsN true w)) := by
  obtain ⟨t, h1, h2⟩ := ha
  exact ⟨_, fun i => pt_cmpR op_notN (h1 i) pe_non rfl, asB_post (isN_run (fun x H Q q => ⟨rfl, by simpa using q⟩) h2)⟩
theorem ds_parT (i j : Nat) {x y : Str} {px py pt : Pos} {kt k2 : Nat} {pt2 : Pos} {wa wb : WE} (hc : ∀ k, (Φ.X k).calm = true) (hN : ∀ k, (Φ.X k).N.Nodup) (ha : DE Φ W a wa) (hb : DE Φ W b wb)
    (hi : ∀ k, (Φ.X k).N[i]? = some x := by intro _; rfl) (hj : ∀ k, (Φ.X k).N[j]? = some y := by intro _; rfl)
    (hx : ∀ j, Loc (Φ.X j).env.scope x := by intro _; first | exact Or.inl rfl | exact Or.inr rfl) (hy : ∀ k, Loc (Φ.X k).env.scope y := by intro _; first | exact Or.inl rfl | exact Or.inr rfl)
    (hfx : ∀ j, (Φ.X j).fn x = true ∨ (Φ.X j).env.scope.names.lookup x = some .local := by intro _; first | exact .inl rfl | exact .inr rfl) (hfy : ∀ j, (Φ.X j).fn y = true ∨ (Φ.X j).env.scope.names.lookup y = some .local := by intro _; first | exact .inl rfl | exact .inr rfl)
    (hs : ∀ i, starEach [a, b] (Φ.X i).env = (false, eval a (Φ.X i).env) :: starEach [b] (Φ.X i).env := by intro _; rfl) (hs2 : ∀ i, starEach [b] (Φ.X i).env = (false, eval b (Φ.X i).env) :: starEach [] (Φ.X i).env := by intro _; rfl)
    (hss : ∀ k, swapsWithSole [.Tuple [.Name x px, .Name y py] kt pt] (.Tuple [a, b] k2 pt2) pos.line (Φ.X k).env = pure false := by intro _; rfl)
    (hw : ∀ k, swappedStores [.Tuple [.Name x px, .Name y py] kt pt] (.Tuple [a, b] k2 pt2) (Φ.X k).env = pure none := by intro _; rfl)
    (h1 : ∀ k, (assignEach [.Tuple [.Name x px, .Name y py] kt pt] (Φ.X k).env).map (·.2) = [assign (.Tuple [.Name x px, .Name y py] kt pt) (Φ.X k).env] := by intro _; rfl)
    (h2a : ∀ k, (assignEach [.Name x px, .Name y py] (Φ.X k).env).map (·.2) = assign (.Name x px) (Φ.X k).env :: (assignEach [.Name y py] (Φ.X k).env).map (·.2) := by intro _; rfl)
    (h2b : ∀ k, (assignEach [.Name y py] (Φ.X k).env).map (·.2) = assign (.Name y py) (Φ.X k).env :: (assignEach [] (Φ.X k).env).map (·.2) := by intro _; rfl)
    (hn : ∀ k, (assignEach [.Name x px, .Name y py] (Φ.X k).env).length = 2 := by intro _; rfl) (hst : ∀ k, (assignEach [.Name x px, .Name y py] (Φ.X k).env).findIdx? (·.1) = none := by intro _; rfl) :
    DS Φ W (.Assign [.Tuple [.Name x px, .Name y py] kt pt] (.Tuple [a, b] k2 pt2) pos) (wPar i j (wTwo wa wb)) := by
  obtain ⟨t, t1, t2⟩ := da_two ha hb hs hs2
  refine ⟨tAsg (tTup t) (gTup Φ.K 2 (gCons (gName i) (gCons (gName j) gNil))), fun k => ?_, fun B F H σ δ M E D r hwp lk xl => ?_⟩
  · have g := pg_tup (k := kt) (pos := pt) (hc k) (pgs_cons (pg_name (pos := px) (hN k) (hi k) (hx k) (hfx k)) (pgs_cons (pg_name (pos := py) (hN k) (hj k) (hy k) (hfy k)) pgs_nil (h2b k)) (h2a k)) (hn k) (hst k)
    rw [Φ.hK k] at g
    exact ps_asg (pe_tup (t1 k)) g (hss k) (hw k) (h1 k)
  · refine t2 B F H σ δ _ E _ r hwp (fun u v F1 H1 su sv δ1 r1 s1 q1 q2 ap w => ?_) (xl σ)
    obtain ⟨l1, l2, w⟩ := w
    refine ⟨by show 2 ≤ sizeLine; decide, fun q hq => ⟨q, [u, v], rfl, .inl (.inl upd_same), rfl, u, [v], rfl, v, [], rfl, rfl, ?_⟩⟩
    have sl := Stp.lay (σ := σ) (δ := δ1) (F := F1) (ho := .tup [u, v]) hq
    have r2 := r1.lay (ho := .tup [u, v]) hq
    exact lk.nx _ _ _ _ ((r2.put (q1.step sl) l1).put (SR.beside r2 l1 (q1.step sl) (q2.step sl) ap) (by rw [List.length_set]; exact l2)) w
end
end DL
namespace DL
open PySem L2
section
variable {Φ : Fam} {W : WX} {a b c : Expr} {pos p : Pos}
end
end DL
namespace MX
open PySem PySem.W PySem.Spec PyProof.Rows
theorem mx_args (a b v : Value) : argsOk "max" ⟨[a, b], [(Str.ofString "key", v)]⟩ := by unfold argsOk; kernel_rfl
structure Mst (h0 h : Heap) (T I S : Addr) (its : Array Value) (i : Nat) (best : Array Value) : Prop where
  keep : ∀ c o, h0.get? c = some o → h.get? c = some o
  it : h.IsTupleIter I T i ∧ h.IsTuple T its
  bs : ∃ n, h.get? S = some (seqObj "list" best n)
section
variable {prog : Program} {w : World} {A : Around} {R : Result → Shared → Prop} {s : Shared} {h0 : Heap} {T I S : Addr} {its : Array Value} {i : Nat}
theorem mst_next {h h' : Heap} {best : Array Value} (M : Mst h0 h T I S its i best) (st : h'.IsTupleIter I T (i + 1) ∧ h'.IsTuple T its) (hk : ∀ b o, b ∉ [I] → h.get? b = some o → h'.get? b = some o) (nI : h0.get? I = none) (SI : S ≠ I) : Mst h0 h' T I S its (i + 1) best :=
  ⟨fun c o e => hk c o (fun z => by rw [List.mem_singleton.mp z, nI] at e; cases e) (M.keep c o e), st, let ⟨n, e⟩ := M.bs; ⟨n, hk S _ (by simpa using SI) e⟩⟩
theorem mst_put {h : Heap} {best new : Array Value} (M : Mst h0 h T I S its i best) (nS : h0.get? S = none) (SI : S ≠ I) (ST : S ≠ T) : Mst h0 (h.update S (Obj.mapSeq fun _ => new)) T I S its i new := by
  obtain ⟨n, e⟩ := M.bs
  have sb := Heap.SameBut.update h S (Obj.mapSeq fun _ => new)
  refine ⟨fun c o q => (sb.2 c fun z => by rw [z, nS] at q; cases q).trans (M.keep c o q), ⟨?_, ?_⟩, ⟨_, get?_update_seq e fun _ => new⟩⟩
  · exact M.it.1.at fun o q => (sb.2 I (Ne.symm SI)).trans q
  · exact M.it.2.at fun o q => (sb.2 T (Ne.symm ST)).trans q
theorem mx_end {item val : Value} (hh : A.handled = none) (M : Mst h0 s.heap T I S its i #[item, val]) (hi : i = its.size) (nI : h0.get? I = none) (nS : h0.get? S = none) (TI : T ≠ I) (SI : S ≠ I)
    (hR : ∀ h' tk, (∀ c o, h0.get? c = some o → h'.get? c = some o) → R (.ok (.ret item)) { s with heap := h', toks := tk }) :
    codeAny (model prog w) A (.builtin "max.loop" ⟨[.ref I, .builtin "len", .ref S], []⟩) R s := by
  have W := Walks.tuple (prog := prog) (w := w) (A := A.in1) hh I T TI its
  obtain ⟨n, e⟩ := M.bs
  refine codeAny_builtin PySem.F.entry_max_loop ?_
  rw [Around.under_plainId PySem.F.plain_max_loop _]
  show wpAny _ A.in1 (seqItems? (.ref S) >>= _) _ _ _
  refine wpAny_bind (wpAny_seqItems e rfl ?_)
  show wpAny _ A.in1 (tryCatch (pyNext (.ref I)) _ >>= _) _ _ _
  refine wpAny_bind (wpAny_tryCatch (W.done _ _ _ (hi ▸ M.it) fun h' tk hk => ?_))
  have eS := hk S _ (by simpa using SI) e
  show wpAny _ A.in1 (updateSeq S (fun _ => #[]) >>= _) _ _ _
  refine wpAny_bind (wpAny_updateSeq eS rfl (wpAny_bind (wpAny_letGo (wpAny_pure (hR _ _ fun c o q => ?_)))))
  have sb := Heap.SameBut.update h' S (Obj.mapSeq fun _ => (#[] : Array Value))
  exact (sb.2 c fun z => by rw [z, nS] at q; cases q).trans (hk c o (fun z => by rw [List.mem_singleton.mp z, nI] at q; cases q) (M.keep c o q))
theorem mx_one {c : Addr} {zs : Array Value} (hh : A.handled = none) (M : Mst h0 s.heap T I S its i #[]) (hi : its[i]? = some (.ref c)) (hc : h0.IsList c zs) (fit : (zs.size : Int) < 2 ^ 63) (nI : h0.get? I = none) (nS : h0.get? S = none) (TI : T ≠ I) (SI : S ≠ I) (ST : S ≠ T)
    (hR : ∀ h' tk t, Mst h0 h' T I S its (i + 1) #[.ref c, .int zs.size t] → codeAny (model prog w) A (.builtin "max.loop" ⟨[.ref I, .builtin "len", .ref S], []⟩) R { s with heap := h', toks := tk }) :
    codeAny (model prog w) A (.builtin "max.loop" ⟨[.ref I, .builtin "len", .ref S], []⟩) R s := by
  have W := Walks.tuple (prog := prog) (w := w) (A := A.in1) hh I T TI its
  obtain ⟨n, e⟩ := M.bs
  have hname : (toString "max" ++ toString ".loop" : String) = "max.loop" := by decide
  refine codeAny_builtin PySem.F.entry_max_loop ?_
  rw [Around.under_plainId PySem.F.plain_max_loop _]
  show wpAny _ A.in1 (seqItems? (.ref S) >>= _) _ _ _
  refine wpAny_bind (wpAny_seqItems e rfl ?_)
  show wpAny _ A.in1 (tryCatch (pyNext (.ref I)) _ >>= _) _ _ _
  refine wpAny_bind (wpAny_tryCatch (W.item i _ _ _ (Array.getElem?_eq_some_iff.mp hi).1 M.it fun v h' tk hP st hk => ?_))
  have ev : v = .ref c := Option.some.inj (hP.symm.trans hi)
  subst ev
  have M1 := mst_next M st hk nI SI
  show wpAny _ A.in1 (tryCatch (holding [.ref c] (call (.builtin "len") [.ref c])) _ >>= _) _ _ _
  refine wpAny_bind (wpAny_tryCatch (wpAny_holding (Calls.call_len_list (hc.at fun o q => M1.keep c o q) fit ?_)))
  obtain ⟨n1, e1⟩ := M1.bs
  show wpAny _ A.in1 (updateSeq S (fun _ => #[.ref c, _]) >>= _) _ _ _
  refine wpAny_bind (wpAny_updateSeq e1 rfl ?_)
  rw [hname]
  exact wpAny_pure ⟨plainId_quiet PySem.F.plain_max_loop _, hR _ _ _ (mst_put M1 nS SI ST)⟩
theorem mx_more {c d : Addr} {m : Int} {t : Tok} {zs : Array Value} (hh : A.handled = none) (M : Mst h0 s.heap T I S its i #[.ref d, .int m t]) (hi : its[i]? = some (.ref c)) (hc : h0.IsList c zs) (fit : (zs.size : Int) < 2 ^ 63) (nI : h0.get? I = none) (nS : h0.get? S = none) (TI : T ≠ I) (SI : S ≠ I) (ST : S ≠ T)
    (hR : ∀ h' tk u, (if (zs.size : Int) > m then Mst h0 h' T I S its (i + 1) #[.ref c, .int zs.size u] else Mst h0 h' T I S its (i + 1) #[.ref d, .int m t]) → codeAny (model prog w) A (.builtin "max.loop" ⟨[.ref I, .builtin "len", .ref S], []⟩) R { s with heap := h', toks := tk }) :
    codeAny (model prog w) A (.builtin "max.loop" ⟨[.ref I, .builtin "len", .ref S], []⟩) R s := by
  have W := Walks.tuple (prog := prog) (w := w) (A := A.in1) hh I T TI its
  obtain ⟨n, e⟩ := M.bs
  have hname : (toString "max" ++ toString ".loop" : String) = "max.loop" := by decide
  refine codeAny_builtin PySem.F.entry_max_loop ?_
  rw [Around.under_plainId PySem.F.plain_max_loop _]
  show wpAny _ A.in1 (seqItems? (.ref S) >>= _) _ _ _
  refine wpAny_bind (wpAny_seqItems e rfl ?_)
  show wpAny _ A.in1 (tryCatch (pyNext (.ref I)) _ >>= _) _ _ _
  refine wpAny_bind (wpAny_tryCatch (W.item i _ _ _ (Array.getElem?_eq_some_iff.mp hi).1 M.it fun v h' tk hP st hk => ?_))
  have ev : v = .ref c := Option.some.inj (hP.symm.trans hi)
  subst ev
  have M1 := mst_next M st hk nI SI
  show wpAny _ A.in1 (tryCatch (holding [.ref c] (call (.builtin "len") [.ref c])) _ >>= _) _ _ _
  refine wpAny_bind (wpAny_tryCatch (wpAny_holding (Calls.call_len_list (hc.at fun o q => M1.keep c o q) fit ?_)))
  obtain ⟨n1, e1⟩ := M1.bs
  generalize hu : tk + 1 = u
  show wpAny _ A.in1 (tryCatch (holding [.ref c, .int zs.size u] (richCompare .Gt (.int zs.size u) (.int m t) >>= _)) _ >>= _) _ _ _
  refine wpAny_bind (wpAny_tryCatch (wpAny_holding (wpAny_bind (CmpOf.ints_gt (prog := prog) (w := w) (A := A.in1) (P := fun j v => ∃ t, v = .int (if j = 0 then (zs.size : Int) else m) t) (fun j => if j = 0 then (zs.size : Int) else m) (fun j v h => h) 0 1 _ _ _ _ _ ⟨u, rfl⟩ ⟨t, rfl⟩ ?_))))
  refine wpAny_bind (wpAny_holding (wpAny_truthy_bool (wpAny_bind (wpAny_letGo (wpAny_pure ?_)))))
  show wpAny _ _ (if decide ((zs.size : Int) > m) = true then _ else _) _ _ _
  by_cases g : (zs.size : Int) > m
  · rw [if_pos (decide_eq_true g)]
    refine wpAny_bind (wpAny_updateSeq e1 rfl (wpAny_bind (wpAny_letGo ?_)))
    rw [hname]
    exact wpAny_pure ⟨plainId_quiet PySem.F.plain_max_loop _, hR _ _ u (by rw [if_pos g]; exact mst_put M1 nS SI ST)⟩
  · rw [if_neg (show ¬ (decide ((zs.size : Int) > m) = true) by rw [decide_eq_false g]; exact Bool.false_ne_true)]
    refine wpAny_bind (wpAny_letGo ?_)
    rw [hname]
    exact wpAny_pure ⟨plainId_quiet PySem.F.plain_max_loop _, hR _ _ u (by rw [if_neg g]; exact M1)⟩
end
section
variable {prog : Program} {w : World} {A : Around} {E : Value → Shared → Prop} {s : Shared}
theorem max_len {a b : Addr} {xs ys : Array Value} {Q : Value → Shared → Prop} (hh : A.handled = none) (la : s.heap.IsList a xs) (lb : s.heap.IsList b ys) (fa : (xs.size : Int) < 2 ^ 63) (fb : (ys.size : Int) < 2 ^ 63)
    (h : ∀ h' tk, (∀ c o, s.heap.get? c = some o → h'.get? c = some o) → Q (if (ys.size : Int) > xs.size then .ref b else .ref a) { s with heap := h', toks := tk }) :
    wpAny (model prog w) A (call (.builtin "max") [.ref a, .ref b] [(Str.ofString "key", .builtin "len")]) Q E s := by
  have hname : (toString "max" ++ toString ".loop" : String) = "max.loop" := by decide
  refine kmb_tree PySem.F.kind_max PySem.F.plain_max PySem.F.entry_max (mx_args _ _ _) ?_
  show wpAny _ A.in1 (Builtin.Builtins.bindParams "max" ["key", "default"] 0 ⟨[], [(Str.ofString "key", .builtin "len")]⟩ >>= _) _ _ s
  refine wpAny_bind (wpAny_of_eq (show Builtin.Builtins.bindParams "max" ["key", "default"] 0 ⟨[], [(Str.ofString "key", .builtin "len")]⟩ = pure [some (.builtin "len"), none] from rfl) ?_)
  show wpAny _ A.in1 (newTuple [.ref a, .ref b] >>= _) _ _ s
  refine wpAny_bind (wpAny_newObj_type ?_)
  have hT : (s.heap.push { cls := .type "tuple", data := .seq #[.ref a, .ref b] }).IsTuple s.heap.objs.size #[.ref a, .ref b] := ⟨_, Heap.get?_push_size _ rfl, rfl, 0, rfl⟩
  refine wpAny_bind (wpAny_pyIter_tuple hT ?_)
  refine wpAny_bind (wpAny_newList ?_ (Nat.zero_le _))
  rw [hname]
  refine wpAny_pure ⟨plainId_quiet PySem.F.plain_max_loop _, ?_⟩
  generalize hg1 : s.heap.push { cls := .type "tuple", data := .seq #[.ref a, .ref b] } = g1 at hT ⊢
  have z1 : g1.objs.size = s.heap.objs.size + 1 := by rw [← hg1]; exact Heap.size_push _ _
  have k1 : ∀ c o, s.heap.get? c = some o → g1.get? c = some o := fun c o e => by rw [← hg1]; exact Heap.get?_push_of_some _ e
  generalize hg2 : g1.push { cls := .type "tuple_iterator", data := .fields #[.ref s.heap.objs.size, .int 0 0] } = g2
  have z2 : g2.objs.size = s.heap.objs.size + 2 := by rw [← hg2, Heap.size_push, z1]
  have k2 : ∀ c o, g1.get? c = some o → g2.get? c = some o := fun c o e => by rw [← hg2]; exact Heap.get?_push_of_some _ e
  have it2 : g2.IsTupleIter g1.objs.size s.heap.objs.size 0 := by rw [← hg2]; exact ⟨_, Heap.get?_push_size _ rfl, rfl, rfl⟩
  have new : ∀ {c : Addr}, s.heap.objs.size ≤ c → s.heap.get? c = none := fun {c} hc => Heap.get?_none_of_le hc
  have M0 : Mst s.heap (g2.push (seqObj "list" #[] 0)) s.heap.objs.size g1.objs.size g2.objs.size #[.ref a, .ref b] 0 #[] :=
    ⟨fun c o e => Heap.get?_push_of_some _ (k2 _ _ (k1 _ _ e)), ⟨it2.at fun o e => Heap.get?_push_of_some _ e, hT.at fun o e => Heap.get?_push_of_some _ (k2 _ _ e)⟩, 0, Heap.get?_push_size _ rfl⟩
  have nI := new (c := g1.objs.size) (by rw [z1]; exact Nat.le_succ _)
  have nS := new (c := g2.objs.size) (by rw [z2]; exact Nat.le_add_right _ _)
  have TI : s.heap.objs.size ≠ g1.objs.size := by rw [z1]; exact Nat.ne_of_lt (Nat.lt_succ_self _)
  have SI : g2.objs.size ≠ g1.objs.size := by rw [z1, z2]; exact Nat.ne_of_gt (Nat.lt_succ_self _)
  have ST : g2.objs.size ≠ s.heap.objs.size := by rw [z2]; exact Nat.ne_of_gt (Nat.lt_add_of_pos_right (by decide))
  refine mx_one hh M0 rfl la fa nI nS TI SI ST fun h1 tk1 t1 M1 => ?_
  refine mx_more (s := { s with heap := h1, toks := tk1 }) hh M1 rfl lb fb nI nS TI SI ST fun h2 tk2 u M2 => ?_
  by_cases g : (ys.size : Int) > xs.size
  · rw [if_pos g] at M2
    refine mx_end (s := { s with heap := h2, toks := tk2 }) hh M2 rfl nI nS TI SI fun h3 tk3 k3 => ?_
    have z := h h3 tk3 k3
    rw [if_pos g] at z
    exact z
  · rw [if_neg g] at M2
    refine mx_end (s := { s with heap := h2, toks := tk2 }) hh M2 rfl nI nS TI SI fun h3 tk3 k3 => ?_
    have z := h h3 tk3 k3
    rw [if_neg g] at z
    exact z
end
end MX
namespace DL
open PySem L2
section
variable {X : Cx} {a b : Expr} {ta : TA} {p p2 pos kpos : Pos}
def tMaxL (K : PySem.W.Frag) (ta : TA) : TE := fun σ H Q => ta σ H fun vs H1 => ∃ (l m : Addr) (xs ys : List V), vs = [.ref l, .ref m] ∧ SqL K H1 l xs ∧ SqL K H1 m ys ∧ Q (if ys.length > xs.length then .ref m else .ref l) H1
theorem pe_maxL (hc : X.calm = true) (hg : Gl X "max") (hm : X.mg "max" = none) (hg2 : Gl X "len") (hm2 : X.mg "len" = none) (ha : PA X [a, b] ta)
    (he : backTo pos (starEach [a, b] X.env) = (false, eval a X.env) :: backTo pos (starEach [b] X.env)) (hpl : (backTo pos (starEach [a, b] X.env)).any (·.1) = false) :
    PE X (.Call (.Name "max" p) [a, b] [⟨some (Str.ofString "key"), .Name "len" p2, kpos⟩] pos) (tMaxL X.K ta) := ⟨fun pins s σ H Q I h => by
  refine wpAny_Call_Name_kw (ld_blt (u := .builtin "max") I hg hm (by decide +kernel) ?_)
  refine PyProof.Rows.callWith_kw (thn (ha.run pos pins s σ H _ I h) fun us t1 hh => ?_) he hpl rfl rfl
  obtain ⟨vs, H1, I1, r1, l, m, xs, ys, rfl, h1, h2, q⟩ := hh
  show wpAny _ _ (evalAll [(do let v ← eval (.Name "len" p2) X.env; standAt pos; pure v)]) _ _ t1
  refine wpAny_evalAll_cons (wpAny_bind (ld_blt (u := .builtin "len") I1 hg2 hm2 (by decide +kernel) (wpAny_bind (wpAny_standAt (wpAny_pure (wpAny_evalAll_nil ?_))))))
  obtain ⟨u, w', rfl, e1, e2⟩ := vals2 r1
  cases (show u = Value.ref l from e1)
  cases (show w' = Value.ref m from e2)
  obtain ⟨ia, ra, la, za⟩ := I1.list h1
  obtain ⟨ib, rb, lb, zb⟩ := I1.list h2
  have na : ia.toArray.size = xs.length := by rw [List.size_toArray, ← ra.length]
  have nb : ib.toArray.size = ys.length := by rw [List.size_toArray, ← rb.length]
  rw [sizeLine_eq] at za zb
  refine MX.max_len (I1.ok.hd hc) la.isList lb.isList (by rw [na]; omega) (by rw [nb]; omega) fun g tk k => ⟨if ys.length > xs.length then .ref m else .ref l, H1, I1.kept k, ?_, q⟩
  rw [na, nb]
  by_cases z : ys.length > xs.length
  · rw [if_pos z, if_pos (by omega)]; rfl
  · rw [if_neg z, if_neg (by omega)]; rfl⟩
end
section
variable {Φ : Fam} {W : WX} {a b : Expr} {p p2 pos kpos : Pos}
def wMaxLen (w : WL) : WE := fun δ Q E => w δ (fun xs δ' => match xs with
  | [.lst x, .lst y] => Q (.d (.lst (if y.length > x.length then y else x))) δ'
  | _ => False) E
theorem de_maxLen {w : WL} (hc : ∀ i, (Φ.X i).calm = true) (hm : ∀ i, (Φ.X i).mg "max" = none) (hm2 : ∀ i, (Φ.X i).mg "len" = none) (ha : DA Φ W [a, b] w) (hg : ∀ i, Gl (Φ.X i) "max" := by intro _; rfl) (hg2 : ∀ i, Gl (Φ.X i) "len" := by intro _; rfl)
    (he : ∀ i, backTo pos (starEach [a, b] (Φ.X i).env) = (false, eval a (Φ.X i).env) :: backTo pos (starEach [b] (Φ.X i).env) := by intro _; rfl) (hpl : ∀ i, (backTo pos (starEach [a, b] (Φ.X i).env)).any (·.1) = false := by intro _; rfl) :
    DE Φ W (.Call (.Name "max" p) [a, b] [⟨some (Str.ofString "key"), .Name "len" p2, kpos⟩] pos) (wMaxLen w) := by
  obtain ⟨t, h1, h2⟩ := ha
  refine ⟨tMaxL Φ.K t, fun i => by rw [← Φ.hK i]; exact pe_maxL (hc i) (hg i) (hm i) (hg2 i) (hm2 i) (h1 i) (he i) (hpl i), fun B F H σ δ Q E Qh r hw pp xl => h2 B F H σ δ _ E _ r hw (fun vs F1 H1 xs δ1 r1 s1 reps q => ?_) xl⟩
  split at q
  · rename_i x y
    cases reps with
    | cons ra rr =>
      cases rr with
      | cons rb rr =>
        cases rr
        cases ra with
        | lst fa qa =>
          cases rb with
          | lst fb qb =>
            refine ⟨_, _, _, _, rfl, .of (r1.sub _ _ fa), .of (r1.sub _ _ fb), ?_⟩
            rw [qa.len, qb.len]
            by_cases z : y.length > x.length
            · rw [if_pos z] at q ⊢
              exact pp _ F1 H1 (.d _) δ1 r1 s1 (.lst fb qb) q
            · rw [if_neg z] at q ⊢
              exact pp _ F1 H1 (.d _) δ1 r1 s1 (.lst fa qa) q
  · exact q.elim
end
end DL
namespace DL
open PySem L2
def noO : Dl → Bool
  | [] => true
  | some (.o _) :: _ => false
  | _ :: r => noO r
theorem noO_ok : ∀ {α : Dl}, noO α = true → ∀ (i : Nat) (c : Cn), α[i]? ≠ some (some (.o c))
  | [], _, i, c, h => by simp at h
  | none :: r, e, 0, c, h => by simp at h
  | none :: r, e, i + 1, c, h => noO_ok (α := r) e i c (by simpa using h)
  | some (.d x) :: r, e, 0, c, h => by simp at h
  | some (.d x) :: r, e, i + 1, c, h => noO_ok (α := r) e i c (by simpa using h)
  | some (.p x) :: r, e, 0, c, h => by simp at h
  | some (.p x) :: r, e, i + 1, c, h => noO_ok (α := r) e i c (by simpa using h)
  | some (.o x) :: r, e, i, c, h => by simp [noO] at e
theorem lenOf {α : Dl} {n : Nat} (h : α.length = n) (h' : noO α = true) : α.length = n ∧ ∀ (i : Nat) (c : Cn), α[i]? ≠ some (some (.o c)) := ⟨h, noO_ok h'⟩
theorem lt! {a b : Nat} (h : Nat.ble (a + 1) b = true) : a < b := Nat.le_of_ble_eq_true h
abbrev sL (xs : List Str) : D := .lst (xs.map .str)
abbrev iL (xs : List Int) : D := .lst (xs.map .int)
theorem map_inj {α β : Type} {f : α → β} (hf : ∀ a b, f a = f b → a = b) : ∀ {xs ys : List α}, xs.map f = ys.map f → xs = ys
  | [], [], _ => rfl
  | [], _ :: _, h => by cases h
  | _ :: _, [], h => by cases h
  | x :: xs, y :: ys, h => by
    simp only [List.map_cons, List.cons.injEq] at h
    rw [hf _ _ h.1, map_inj hf h.2]
theorem sL_inj {a b : List Str} (h : sL a = sL b) : a = b := by
  injection h with h
  exact map_inj (fun x y e => by injection e) h
theorem toPs_cons {x : D} {xs : List D} {p : PyData} {ps : List PyData} (h : toP x = some p) (h' : toPs xs = some ps) : toPs (x :: xs) = some (p :: ps) := by
  simp only [toPs, h, h']
theorem toPs_map {α : Type} {f : α → D} {g : α → PyData} (h : ∀ a, toP (f a) = some (g a)) : ∀ xs : List α, toPs (xs.map f) = some (xs.map g)
  | [] => rfl
  | x :: xs => toPs_cons (h x) (toPs_map h xs)
theorem toP_lst {xs : List D} {ps : List PyData} (h : toPs xs = some ps) : toP (.lst xs) = some (.list ps) := by simp only [toP, h]
theorem toP_tup {xs : List D} {ps : List PyData} (h : toPs xs = some ps) : toP (.tup xs) = some (.tuple ps) := by simp only [toP, h]
theorem depthAll_le {n : Nat} : ∀ {ps : List PyData}, (∀ p ∈ ps, p.depth ≤ n) → PyData.depthAll ps ≤ n
  | [], _ => by simp only [PyData.depthAll]; exact Nat.zero_le _
  | p :: ps, h => by
    simp only [PyData.depthAll]
    have h1 := h p List.mem_cons_self
    have h2 := depthAll_le (n := n) (ps := ps) fun q hq => h q (List.mem_cons_of_mem _ hq)
    omega
theorem depth_str (x : Str) : (PyData.str x).depth = 0 := by simp only [PyData.depth]
theorem depth_int (x : Int) : (PyData.int x).depth = 0 := by simp only [PyData.depth]
def Eok (n : Nat) (x : D) : Prop := ∃ p, toP x = some p ∧ p.depth ≤ n
theorem Eok.ok {n : Nat} {x : D} (h : Eok n x) (hn : n ≤ 40) : eqOk x = true := by
  obtain ⟨p, e, d⟩ := h
  unfold eqOk
  rw [e]
  exact decide_eq_true (Nat.le_trans d hn)
theorem Eok.str {n : Nat} (x : Str) : Eok n (.str x) := ⟨_, rfl, by rw [depth_str]; exact Nat.zero_le _⟩
theorem Eok.int {n : Nat} (x : Int) : Eok n (.int x) := ⟨_, rfl, by rw [depth_int]; exact Nat.zero_le _⟩
theorem Eok.bl {n : Nat} (x : Bool) : Eok n (.bl x) := ⟨_, rfl, by simp only [PyData.depth]; exact Nat.zero_le _⟩
theorem Eok.non {n : Nat} : Eok n .non := ⟨_, rfl, by simp only [PyData.depth]; exact Nat.zero_le _⟩
theorem Eok.all {n : Nat} : ∀ {xs : List D}, (∀ x ∈ xs, Eok n x) → ∃ ps, toPs xs = some ps ∧ PyData.depthAll ps ≤ n
  | [], _ => ⟨[], rfl, by simp only [PyData.depthAll]; exact Nat.zero_le _⟩
  | x :: xs, h => by
    obtain ⟨p, e, d⟩ := h x List.mem_cons_self
    obtain ⟨ps, es, ds⟩ := Eok.all (n := n) (xs := xs) fun q hq => h q (List.mem_cons_of_mem _ hq)
    refine ⟨p :: ps, toPs_cons e es, ?_⟩
    simp only [PyData.depthAll]
    omega
theorem Eok.lst {n : Nat} {xs : List D} (h : ∀ x ∈ xs, Eok n x) : Eok (n + 1) (.lst xs) := by
  obtain ⟨ps, e, d⟩ := Eok.all h
  exact ⟨_, toP_lst e, by simp only [PyData.depth]; omega⟩
theorem Eok.tup {n : Nat} {xs : List D} (h : ∀ x ∈ xs, Eok n x) : Eok (n + 1) (.tup xs) := by
  obtain ⟨ps, e, d⟩ := Eok.all h
  exact ⟨_, toP_tup e, by simp only [PyData.depth]; omega⟩
theorem Eok.mono {n m : Nat} {x : D} (h : Eok n x) (hn : n ≤ m) : Eok m x := let ⟨p, e, d⟩ := h; ⟨p, e, Nat.le_trans d hn⟩
theorem Eok.sL {n : Nat} (xs : List Str) : Eok (n + 1) (sL xs) := .lst fun x hx => by
  obtain ⟨z, _, rfl⟩ := List.mem_map.mp hx
  exact .str z
theorem Eok.iL {n : Nat} (xs : List Int) : Eok (n + 1) (iL xs) := .lst fun x hx => by
  obtain ⟨z, _, rfl⟩ := List.mem_map.mp hx
  exact .int z
theorem eqOk_str (x : Str) : eqOk (.str x) = true := (Eok.str (n := 0) x).ok (by decide)
theorem eqOk_int (x : Int) : eqOk (.int x) = true := (Eok.int (n := 0) x).ok (by decide)
theorem eqOk_bl (x : Bool) : eqOk (.bl x) = true := (Eok.bl (n := 0) x).ok (by decide)
theorem eqOk_non : eqOk .non = true := (Eok.non (n := 0)).ok (by decide)
theorem eqOk_sL (xs : List Str) : eqOk (.lst (xs.map .str)) = true := (Eok.sL (n := 0) xs).ok (by decide)
theorem eqOk_iL (xs : List Int) : eqOk (.lst (xs.map .int)) = true := (Eok.iL (n := 0) xs).ok (by decide)
theorem eqOk_nil : eqOk (.lst []) = true := eqOk_sL []
theorem eqOk_nilT : eqOk (.tup []) = true := (Eok.tup (n := 0) (xs := []) (fun x h => nomatch h)).ok (by decide)
theorem deq_str (x y : Str) : deq (.str x) (.str y) = decide (x = y) := by
  show (x == y) = _
  rfl
theorem deq_int (x y : Int) : deq (.int x) (.int y) = decide (x = y) := by
  show (x == y) = _
  rfl
theorem deq_non : deq .non .non = true := rfl
theorem eqvAll_cons (x y : PyData) (xs ys : List PyData) : PyData.eqvAll (x :: xs) (y :: ys) = (PyData.eqv x y && PyData.eqvAll xs ys) := by simp only [PyData.eqvAll]
theorem eqvAll_map {α : Type} {g : α → PyData} (h : ∀ a b, PyData.eqv (g a) (g b) = true ↔ a = b) : ∀ xs ys : List α, PyData.eqvAll (xs.map g) (ys.map g) = true ↔ xs = ys
  | [], [] => ⟨fun _ => rfl, fun _ => rfl⟩
  | [], _ :: _ => ⟨fun h => (by cases h), fun h => (by cases h)⟩
  | _ :: _, [] => ⟨fun h => (by cases h), fun h => (by cases h)⟩
  | x :: xs, y :: ys => by
    rw [List.map_cons, List.map_cons, eqvAll_cons, Bool.and_eq_true, h x y, eqvAll_map h xs ys, List.cons.injEq]
structure Knd {α : Type} (f : α → D) (g : α → PyData) : Prop where
  to : ∀ a, toP (f a) = some (g a)
  iff : ∀ a b, PyData.eqv (g a) (g b) = true ↔ a = b
theorem Knd.str : Knd D.str PyData.str := ⟨fun _ => rfl, fun a b => by show (a == b) = true ↔ _; exact beq_iff_eq⟩
theorem Knd.int : Knd D.int PyData.int := ⟨fun _ => rfl, fun a b => by show (a == b) = true ↔ _; exact beq_iff_eq⟩
theorem Knd.bl : Knd D.bl PyData.bool := ⟨fun _ => rfl, fun a b => by show (a == b) = true ↔ _; exact beq_iff_eq⟩
theorem Knd.lst {α : Type} {f : α → D} {g : α → PyData} (k : Knd f g) : Knd (fun xs : List α => .lst (xs.map f)) (fun xs => .list (xs.map g)) := ⟨fun xs => toP_lst (toPs_map k.to xs), fun xs ys => eqvAll_map k.iff xs ys⟩
theorem Knd.tup {α : Type} {f : α → D} {g : α → PyData} (k : Knd f g) : Knd (fun xs : List α => .tup (xs.map f)) (fun xs => .tuple (xs.map g)) := ⟨fun xs => toP_tup (toPs_map k.to xs), fun xs ys => eqvAll_map k.iff xs ys⟩
theorem Knd.two {α β : Type} {f : α → D} {g : α → PyData} {f' : β → D} {g' : β → PyData} (k : Knd f g) (k' : Knd f' g') : Knd (fun p : α × β => .tup [f p.1, f' p.2]) (fun p => .tuple [g p.1, g' p.2]) :=
  ⟨fun p => toP_tup (toPs_cons (k.to _) (toPs_cons (k'.to _) rfl)), fun p q => by
    show PyData.eqvAll _ _ = true ↔ _
    rw [eqvAll_cons, eqvAll_cons, Bool.and_eq_true, Bool.and_eq_true, k.iff, k'.iff, Prod.ext_iff]
    exact ⟨fun h => ⟨h.1, h.2.1⟩, fun h => ⟨h.1, h.2, rfl⟩⟩⟩
theorem Knd.three {α β γ : Type} {f : α → D} {g : α → PyData} {f' : β → D} {g' : β → PyData} {f2 : γ → D} {g2 : γ → PyData} (k : Knd f g) (k' : Knd f' g') (k2 : Knd f2 g2) : Knd (fun p : α × β × γ => .tup [f p.1, f' p.2.1, f2 p.2.2]) (fun p => .tuple [g p.1, g' p.2.1, g2 p.2.2]) :=
  ⟨fun p => toP_tup (toPs_cons (k.to _) (toPs_cons (k'.to _) (toPs_cons (k2.to _) rfl))), fun p q => by
    show PyData.eqvAll _ _ = true ↔ _
    rw [eqvAll_cons, eqvAll_cons, eqvAll_cons, Bool.and_eq_true, Bool.and_eq_true, Bool.and_eq_true, k.iff, k'.iff, k2.iff, Prod.ext_iff, Prod.ext_iff]
    exact ⟨fun h => ⟨h.1, h.2.1, h.2.2.1⟩, fun h => ⟨h.1, h.2.1, h.2.2, rfl⟩⟩⟩
theorem Knd.eq {α : Type} [DecidableEq α] {f : α → D} {g : α → PyData} (k : Knd f g) (a b : α) : deq (f a) (f b) = decide (a = b) := by
  rw [deq_of (k.to a) (k.to b)]
  cases h : PyData.eqv (g a) (g b) with
  | true => exact (decide_eq_true ((k.iff a b).mp h)).symm
  | false => exact (decide_eq_false fun e => by rw [(k.iff a b).mpr e] at h; cases h).symm
theorem Knd.mem {α : Type} [DecidableEq α] {f : α → D} {g : α → PyData} (k : Knd f g) (a : α) : ∀ xs : List α, dmem (f a) (xs.map f) = decide (a ∈ xs)
  | [] => rfl
  | x :: xs => by
    have e : dmem (f a) ((x :: xs).map f) = (deq (f x) (f a) || dmem (f a) (xs.map f)) := by
      show List.any _ _ = _
      rw [List.map_cons, List.any_cons]
      rfl
    rw [e, k.eq, k.mem a xs, ← Bool.decide_or]
    congr 1
    rw [List.mem_cons]
    exact propext ⟨fun h => h.imp Eq.symm id, fun h => h.imp Eq.symm id⟩
theorem Knd.some {α : Type} {f : α → D} {g : α → PyData} (k : Knd f g) (xs : List α) : (toPs (xs.map f)).isSome = true := by rw [toPs_map k.to]; rfl
theorem Knd.inj {α : Type} {f : α → D} {g : α → PyData} (k : Knd f g) (a b : α) (h : f a = f b) : a = b := by
  have e := k.to a
  rw [h, k.to b] at e
  injection e with e
  refine (k.iff a b).mp ?_
  rw [e]
  exact (k.iff a a).mpr rfl
theorem deq_sL (x y : List Str) : deq (.lst (x.map .str)) (.lst (y.map .str)) = decide (x = y) := (Knd.lst Knd.str).eq x y
theorem deq_iL (x y : List Int) : deq (.lst (x.map .int)) (.lst (y.map .int)) = decide (x = y) := (Knd.lst Knd.int).eq x y
theorem dmem_str (x : Str) (xs : List Str) : dmem (.str x) (xs.map .str) = decide (x ∈ xs) := Knd.str.mem x xs
theorem dmem_int (x : Int) (xs : List Int) : dmem (.int x) (xs.map .int) = decide (x ∈ xs) := Knd.int.mem x xs
theorem some_strs (xs : List Str) : (toPs (xs.map .str)).isSome = true := Knd.str.some xs
theorem some_ints (xs : List Int) : (toPs (xs.map .int)).isSome = true := Knd.int.some xs
theorem deq_nil {xs : List D} {ps : List PyData} (h : toPs xs = some ps) : deq (.lst xs) (.lst []) = decide (xs = []) := by
  rw [deq_of (toP_lst h) (rfl : toP (.lst []) = some (.list []))]
  cases xs with
  | nil => cases h; rfl
  | cons x xs =>
    simp only [toPs] at h
    split at h
    · cases h; rfl
    · cases h
theorem deq_nilM {α : Type} {f : α → D} {g : α → PyData} (k : Knd f g) (xs : List α) : deq (.lst (xs.map f)) (.lst []) = decide (xs = []) := by
  rw [deq_nil (toPs_map k.to xs)]
  congr 1
  exact propext List.map_eq_nil_iff
theorem deq_sL_nil (xs : List Str) : deq (.lst (xs.map .str)) (.lst []) = decide (xs = []) := deq_nilM .str xs
theorem deq_iL_nil (xs : List Int) : deq (.lst (xs.map .int)) (.lst []) = decide (xs = []) := deq_nilM .int xs
theorem sIsi_eq {T t : String} {x : D} {b : Bool} {Q : SD → Prop} (h : tyName x = some t) (k : kitB t T = some b) : sIsi T x Q = Q (.d (.bl b)) := by
  unfold sIsi isiD
  rw [h]
  show (match kitB t T with | some b => Q (.d (.bl b)) | none => False) = _
  rw [k]
theorem tn_non : tyName .non = some "NoneType" := rfl
theorem tn_bl (b : Bool) : tyName (.bl b) = some "bool" := rfl
theorem tn_int (b : Int) : tyName (.int b) = some "int" := rfl
theorem tn_str (b : Str) : tyName (.str b) = some "str" := rfl
theorem tn_lst (b : List D) : tyName (.lst b) = some "list" := rfl
theorem tn_tup (b : List D) : tyName (.tup b) = some "tuple" := rfl
theorem tn_dic (b : List (Key × D)) : tyName (.dic b) = some "dict" := rfl
section
variable {Q : SD → Prop} {xs : List D} {z : Str} {i : Int} {b : Bool} {k : List (Key × D)}
theorem isi_list_lst : sIsi "list" (.lst xs) Q = Q (.d (.bl true)) := sIsi_eq (tn_lst _) (by decide +kernel)
theorem isi_list_tup : sIsi "list" (.tup xs) Q = Q (.d (.bl false)) := sIsi_eq (tn_tup _) (by decide +kernel)
theorem isi_list_str : sIsi "list" (.str z) Q = Q (.d (.bl false)) := sIsi_eq (tn_str _) (by decide +kernel)
theorem isi_list_int : sIsi "list" (.int i) Q = Q (.d (.bl false)) := sIsi_eq (tn_int _) (by decide +kernel)
theorem isi_list_bl : sIsi "list" (.bl b) Q = Q (.d (.bl false)) := sIsi_eq (tn_bl _) (by decide +kernel)
theorem isi_list_non : sIsi "list" .non Q = Q (.d (.bl false)) := sIsi_eq tn_non (by decide +kernel)
theorem isi_list_dic : sIsi "list" (.dic k) Q = Q (.d (.bl false)) := sIsi_eq (tn_dic _) (by decide +kernel)
theorem isi_tup_lst : sIsi "tuple" (.lst xs) Q = Q (.d (.bl false)) := sIsi_eq (tn_lst _) (by decide +kernel)
theorem isi_tup_tup : sIsi "tuple" (.tup xs) Q = Q (.d (.bl true)) := sIsi_eq (tn_tup _) (by decide +kernel)
theorem isi_tup_str : sIsi "tuple" (.str z) Q = Q (.d (.bl false)) := sIsi_eq (tn_str _) (by decide +kernel)
theorem isi_tup_int : sIsi "tuple" (.int i) Q = Q (.d (.bl false)) := sIsi_eq (tn_int _) (by decide +kernel)
theorem isi_tup_bl : sIsi "tuple" (.bl b) Q = Q (.d (.bl false)) := sIsi_eq (tn_bl _) (by decide +kernel)
theorem isi_tup_non : sIsi "tuple" .non Q = Q (.d (.bl false)) := sIsi_eq tn_non (by decide +kernel)
theorem isi_tup_dic : sIsi "tuple" (.dic k) Q = Q (.d (.bl false)) := sIsi_eq (tn_dic _) (by decide +kernel)
theorem isi_str_lst : sIsi "str" (.lst xs) Q = Q (.d (.bl false)) := sIsi_eq (tn_lst _) (by decide +kernel)
theorem isi_str_tup : sIsi "str" (.tup xs) Q = Q (.d (.bl false)) := sIsi_eq (tn_tup _) (by decide +kernel)
theorem isi_str_str : sIsi "str" (.str z) Q = Q (.d (.bl true)) := sIsi_eq (tn_str _) (by decide +kernel)
theorem isi_str_int : sIsi "str" (.int i) Q = Q (.d (.bl false)) := sIsi_eq (tn_int _) (by decide +kernel)
theorem isi_str_bl : sIsi "str" (.bl b) Q = Q (.d (.bl false)) := sIsi_eq (tn_bl _) (by decide +kernel)
theorem isi_str_non : sIsi "str" .non Q = Q (.d (.bl false)) := sIsi_eq tn_non (by decide +kernel)
theorem isi_str_dic : sIsi "str" (.dic k) Q = Q (.d (.bl false)) := sIsi_eq (tn_dic _) (by decide +kernel)
theorem isi_int_lst : sIsi "int" (.lst xs) Q = Q (.d (.bl false)) := sIsi_eq (tn_lst _) (by decide +kernel)
theorem isi_int_tup : sIsi "int" (.tup xs) Q = Q (.d (.bl false)) := sIsi_eq (tn_tup _) (by decide +kernel)
theorem isi_int_str : sIsi "int" (.str z) Q = Q (.d (.bl false)) := sIsi_eq (tn_str _) (by decide +kernel)
theorem isi_int_int : sIsi "int" (.int i) Q = Q (.d (.bl true)) := sIsi_eq (tn_int _) (by decide +kernel)
theorem isi_int_bl : sIsi "int" (.bl b) Q = Q (.d (.bl true)) := sIsi_eq (tn_bl _) (by decide +kernel)
theorem isi_int_non : sIsi "int" .non Q = Q (.d (.bl false)) := sIsi_eq tn_non (by decide +kernel)
theorem isi_int_dic : sIsi "int" (.dic k) Q = Q (.d (.bl false)) := sIsi_eq (tn_dic _) (by decide +kernel)
theorem isi_bl_lst : sIsi "bool" (.lst xs) Q = Q (.d (.bl false)) := sIsi_eq (tn_lst _) (by decide +kernel)
theorem isi_bl_tup : sIsi "bool" (.tup xs) Q = Q (.d (.bl false)) := sIsi_eq (tn_tup _) (by decide +kernel)
theorem isi_bl_str : sIsi "bool" (.str z) Q = Q (.d (.bl false)) := sIsi_eq (tn_str _) (by decide +kernel)
theorem isi_bl_int : sIsi "bool" (.int i) Q = Q (.d (.bl false)) := sIsi_eq (tn_int _) (by decide +kernel)
theorem isi_bl_bl : sIsi "bool" (.bl b) Q = Q (.d (.bl true)) := sIsi_eq (tn_bl _) (by decide +kernel)
theorem isi_bl_non : sIsi "bool" .non Q = Q (.d (.bl false)) := sIsi_eq tn_non (by decide +kernel)
theorem isi_bl_dic : sIsi "bool" (.dic k) Q = Q (.d (.bl false)) := sIsi_eq (tn_dic _) (by decide +kernel)
end
theorem sIndex_str {names : List Str} {name : Str} {Q : SD → Prop} : sIndex (.lst (names.map .str)) (.str name) Q = (name ∈ names ∧ Q (.d (.int (names.idxOf name : Nat)))) := by
  unfold sIndex
  simp only
  rw [strs?_map]
theorem sIndex_int {names : List Int} {name : Int} {Q : SD → Prop} : sIndex (.lst (names.map .int)) (.int name) Q = (name ∈ names ∧ Q (.d (.int (names.idxOf name : Nat)))) := by
  unfold sIndex
  simp only
  rw [ints?_map]
theorem sJoin_str {a : Str} {xs : List Str} {Q : SD → Prop} : sJoin (.str a) (.lst (xs.map .str)) Q = ((xs.map (·.length)).sum + xs.length * a.length ≤ 16777216 ∧ Q (.d (.str (Txt.join a xs)))) := by
  unfold sJoin
  simp only
  rw [strs?_map]
theorem sSum_int {xs : List Int} {Q : SD → Prop} : sSum (.lst (xs.map .int)) Q = Q (.d (.int xs.sum)) := by
  unfold sSum
  simp only
  rw [ints?_map]
theorem atI_map {α β : Type} (f : α → β) (xs : List α) (i : Int) : L2.atI (xs.map f) i = (L2.atI xs i).map f := by
  unfold L2.atI
  rw [List.length_map]
  cases ixN xs.length i with
  | none => rfl
  | some j => show (xs.map f)[j]? = (xs[j]?).map f; rw [List.getElem?_map]
theorem atI_some {α : Type} {xs : List α} {i : Int} (h0 : 0 ≤ i) (h1 : i < xs.length) : L2.atI xs i = some (xs[i.toNat]'(by omega)) := by
  obtain ⟨n, rfl⟩ := Int.eq_ofNat_of_zero_le h0
  have lt : n < xs.length := by omega
  rw [L2.atI_nat (List.getElem?_eq_getElem lt)]
  rfl
theorem cut_map {α β : Type} (f : α → β) (xs : List α) (lo hi : Option Int) : cutD (xs.map f) lo hi = (cutD xs lo hi).map f := by
  unfold cutD
  rw [List.length_map, List.map_take, List.map_drop]
theorem cut_to {α : Type} (xs : List α) {k : Int} (h0 : 0 ≤ k) : cutD xs none (some k) = xs.take k.toNat := by
  obtain ⟨n, rfl⟩ := Int.eq_ofNat_of_zero_le h0
  unfold cutD
  rw [HT.sIx_nat, HT.sIx_none, List.drop_zero, Nat.sub_zero]
  show xs.take (min n xs.length) = xs.take n
  rcases Nat.le_total n xs.length with h | h
  · rw [Nat.min_eq_left h]
  · rw [Nat.min_eq_right h, List.take_of_length_le (Nat.le_refl _), List.take_of_length_le h]
theorem cut_from {α : Type} (xs : List α) {k : Int} (h0 : 0 ≤ k) : cutD xs (some k) none = xs.drop k.toNat := by
  obtain ⟨n, rfl⟩ := Int.eq_ofNat_of_zero_le h0
  unfold cutD
  rw [HT.sIx_nat, HT.sIx_none]
  show (xs.drop (min n xs.length)).take _ = xs.drop n
  rcases Nat.le_total n xs.length with h | h
  · rw [Nat.min_eq_left h, List.take_of_length_le (by rw [List.length_drop]; exact Nat.le_refl _)]
  · rw [Nat.min_eq_right h, List.drop_of_length_le (Nat.le_refl _), List.drop_of_length_le h, List.take_nil]
section
variable {wi : WI} {wg : WG} {wb : WS} {M : WEnds} {E : XQ} {δ δ1 : Dl}
theorem get_pre {α : Type} {xs : List α} {i : Nat} {d : α} (h : xs[i]? = some d) : xs = xs.take i ++ d :: xs.drop (i + 1) ∧ xs.take (i + 1) = xs.take i ++ [d] := by
  obtain ⟨hi, e⟩ := List.getElem?_eq_some_iff.mp h
  refine ⟨?_, by rw [List.take_add_one, h]; rfl⟩
  conv => lhs; rw [← List.take_append_drop i xs]
  rw [List.drop_eq_getElem_cons hi, e]
theorem for_map {α : Type} (ys : List α) (f : α → D) (P : List α → Dl → Prop) (hi : ∀ Q : List D → Dl → Prop, Q (ys.map f) δ1 → wi δ Q E) (p0 : P [] δ1)
    (ps : ∀ pre y post δ', ys = pre ++ y :: post → P pre δ' → wg (f y) δ' (fun δ2 => wb { nx := P (pre ++ [y]), rt := M.rt, bk := M.nx, ct := P (pre ++ [y]) } E δ2)) (pd : ∀ δ', P ys δ' → M.nx δ') : wFor wi wg wb M E δ := by
  refine hi _ ⟨fun i δ => P (ys.take i) δ, p0, fun i d δ' hd hp => ?_, fun δ' hp => ?_⟩
  · rw [List.getElem?_map] at hd
    cases e : ys[i]? with
    | none => rw [e] at hd; cases hd
    | some y =>
      rw [e] at hd
      cases hd
      obtain ⟨h1, h2⟩ := get_pre e
      have z := ps _ y _ δ' h1 hp
      rw [← h2] at z
      exact z
  · rw [List.length_map] at hp
    refine pd δ' ?_
    rwa [List.take_length] at hp
theorem for_D (ys : List D) (P : List D → Dl → Prop) (hi : ∀ Q : List D → Dl → Prop, Q ys δ1 → wi δ Q E) (p0 : P [] δ1)
    (ps : ∀ pre y post δ', ys = pre ++ y :: post → P pre δ' → wg y δ' (fun δ2 => wb { nx := P (pre ++ [y]), rt := M.rt, bk := M.nx, ct := P (pre ++ [y]) } E δ2)) (pd : ∀ δ', P ys δ' → M.nx δ') : wFor wi wg wb M E δ :=
  for_map ys id P (fun Q h => hi Q (by rw [List.map_id] at h; exact h)) p0 ps pd
theorem for_rng (n : Nat) (P : Nat → Dl → Prop) (hi : ∀ Q : List D → Dl → Prop, Q (rangeD 0 n) δ1 → wi δ Q E) (p0 : P 0 δ1)
    (ps : ∀ (k : Nat) δ', k < n → P k δ' → wg (.int k) δ' (fun δ2 => wb { nx := P (k + 1), rt := M.rt, bk := M.nx, ct := P (k + 1) } E δ2)) (pd : ∀ δ', P n δ' → M.nx δ') : wFor wi wg wb M E δ := by
  refine hi _ ⟨P, p0, fun i d δ' hd hp => ?_, fun δ' hp => ?_⟩
  · obtain ⟨h1, rfl⟩ := rangeD_get hd
    have := ps i δ' h1 hp
    rwa [Int.zero_add]
  · rw [rangeD_len] at hp
    exact pd δ' hp
theorem for_rngC (C : Dl → Nat → Prop) (P : Nat → Nat → Dl → Prop) (hi : ∀ Q : List D → Dl → Prop, (∀ δ1 n, C δ1 n → Q (rangeD 0 n) δ1) → wi δ Q E) (p0 : ∀ δ1 n, C δ1 n → P n 0 δ1)
    (ps : ∀ (n k : Nat) δ', k < n → P n k δ' → wg (.int k) δ' (fun δ2 => wb { nx := P n (k + 1), rt := M.rt, bk := M.nx, ct := P n (k + 1) } E δ2)) (pd : ∀ n δ', P n n δ' → M.nx δ') : wFor wi wg wb M E δ := by
  refine hi _ fun δ1 n hc => ⟨P n, p0 δ1 n hc, fun i d δ' hd hp => ?_, fun δ' hp => ?_⟩
  · obtain ⟨h1, rfl⟩ := rangeD_get hd
    have := ps n i δ' h1 hp
    rwa [Int.zero_add]
  · rw [rangeD_len] at hp
    exact pd n δ' hp
variable {wt : WT} {we : WF} {vs : List Nat} {Q : SD → Dl → Prop}
theorem lc_of {α β : Type} (ys : List α) (f : α → D) (g : α → Option β) (e : β → D) (hi : ∀ Q : List D → Dl → Prop, Q (ys.map f) δ1 → wi δ Q E) (hl : ys.length < 16777216)
    (ok : okW δ1 vs) (step : ∀ y ∈ ys, ∀ (R : D → Dl → Prop) (S : Dl → Prop), (∀ u, g y = some u → R (e u) δ1) → (g y = none → S δ1) → wg (f y) (wipeD δ1 vs) (fun δ2 => wt δ2 (fun b δ3 => if b = true then we δ3 (fun v δ4 => R v (unblk δ1 δ4 vs)) E00 else S (unblk δ1 δ3 vs)) E00))
    (q : Q (.o (.l ((ys.filterMap g).map e))) δ1) : wLc wi wg wt we vs δ Q E := by
  refine hi _ ⟨fun i xs δ' => xs = ((ys.take i).filterMap g).map e ∧ δ' = δ1, ⟨rfl, rfl⟩, fun i d xs δ' hd hp => ?_, fun xs δ' hp => ?_⟩
  · obtain ⟨rfl, rfl⟩ := hp
    rw [List.getElem?_map] at hd
    cases ey : ys[i]? with
    | none => rw [ey] at hd; cases hd
    | some y =>
      rw [ey] at hd
      cases hd
      obtain ⟨h1, h2⟩ := get_pre ey
      have hm : y ∈ ys := List.mem_of_getElem? ey
      have lt : (((ys.take i).filterMap g).map e).length < sizeLine := by
        rw [sizeLine_eq, List.length_map]
        have h3 := List.length_filterMap_le g (ys.take i)
        rw [List.length_take] at h3
        omega
      refine ⟨ok, step y hm (fun v δ4 => (((ys.take i).filterMap g).map e).length < sizeLine ∧ ((ys.take i).filterMap g).map e ++ [v] = ((ys.take (i + 1)).filterMap g).map e ∧ δ4 = δ')
        (fun δ3 => ((ys.take i).filterMap g).map e = ((ys.take (i + 1)).filterMap g).map e ∧ δ3 = δ') (fun u hu => ⟨lt, ?_, rfl⟩) fun hn => ⟨?_, rfl⟩⟩
      · rw [h2, List.filterMap_append, List.map_append]
        simp [hu]
      · rw [h2, List.filterMap_append, List.map_append]
        simp [hn]
  · obtain ⟨rfl, rfl⟩ := hp
    rw [List.length_map, List.take_length]
    exact q
theorem lc_filter {α : Type} (ys : List α) (f : α → D) (t : α → Bool) (hi : ∀ Q : List D → Dl → Prop, Q (ys.map f) δ1 → wi δ Q E) (hl : ys.length < 16777216)
    (ok : okW δ1 vs) (step : ∀ y ∈ ys, ∀ (R : D → Dl → Prop) (S : Dl → Prop), (t y = true → R (f y) δ1) → (t y = false → S δ1) → wg (f y) (wipeD δ1 vs) (fun δ2 => wt δ2 (fun b δ3 => if b = true then we δ3 (fun v δ4 => R v (unblk δ1 δ4 vs)) E00 else S (unblk δ1 δ3 vs)) E00))
    (q : Q (.o (.l ((ys.filter t).map f))) δ1) : wLc wi wg wt we vs δ Q E := by
  refine lc_of ys f (fun y => if t y then some y else none) f hi hl ok (fun y hy R S hR hS => step y hy R S (fun h => hR y (by rw [if_pos h])) fun h => hS (by simp [h])) ?_
  have e : ys.filterMap (fun y => if t y then some y else none) = ys.filter t := by
    induction ys with
    | nil => rfl
    | cons y ys ih =>
      have ih' : List.filterMap (fun y => if t y then some y else none) ys = List.filter t ys := by
        clear q step hl hi ih
        induction ys with
        | nil => rfl
        | cons y ys ih => cases h : t y <;> simp [h, ih]
      cases h : t y <;> simp [h, ih']
  rw [e]
  exact q
theorem lc_map {α β : Type} (ys : List α) (f : α → D) (g : α → β) (e : β → D) (hi : ∀ Q : List D → Dl → Prop, Q (ys.map f) δ1 → wi δ Q E) (hl : ys.length < 16777216)
    (ok : okW δ1 vs) (step : ∀ y ∈ ys, ∀ (R : D → Dl → Prop) (S : Dl → Prop), R (e (g y)) δ1 → wg (f y) (wipeD δ1 vs) (fun δ2 => wt δ2 (fun b δ3 => if b = true then we δ3 (fun v δ4 => R v (unblk δ1 δ4 vs)) E00 else S (unblk δ1 δ3 vs)) E00))
    (q : Q (.o (.l ((ys.map g).map e))) δ1) : wLc wi wg wt we vs δ Q E := by
  refine lc_of ys f (fun y => some (g y)) e hi hl ok (fun y hy R S hR hS => step y hy R S (hR _ rfl)) ?_
  rw [List.filterMap_eq_map']
  exact q
theorem lc_filterD (ys : List D) (t : D → Bool) (hi : ∀ Q : List D → Dl → Prop, Q ys δ1 → wi δ Q E) (hl : ys.length < 16777216)
    (ok : okW δ1 vs) (step : ∀ y ∈ ys, ∀ (R : D → Dl → Prop) (S : Dl → Prop), (t y = true → R y δ1) → (t y = false → S δ1) → wg y (wipeD δ1 vs) (fun δ2 => wt δ2 (fun b δ3 => if b = true then we δ3 (fun v δ4 => R v (unblk δ1 δ4 vs)) E00 else S (unblk δ1 δ3 vs)) E00))
    (q : Q (.o (.l (ys.filter t))) δ1) : wLc wi wg wt we vs δ Q E :=
  lc_filter ys id t (fun Q h => hi Q (by rw [List.map_id] at h; exact h)) hl ok step (by rw [List.map_id]; exact q)
def ownB (δ : Dl) (n : Nat) : Bool := match δ[n]? with
  | some (some (.o _)) => true
  | some (some (.p _)) => true
  | _ => false
theorem okW_of {δ : Dl} {vs : List Nat} (h : vs.all (fun n => !ownB δ n) = true) : okW δ vs := fun n hn ⟨c, e⟩ => by
  have := List.all_eq_true.mp h n hn
  rcases e with e | e <;> simp [ownB, e] at this
def Jn (r : Option SD) : Prop := r = none ∨ ∃ d, r = some (.d d)
theorem Jn.no : Jn none := .inl rfl
theorem Jn.dt (d : D) : Jn (some (.d d)) := .inr ⟨d, rfl⟩
theorem okW_one {δ : Dl} {n : Nat} {r : Option SD} (h : δ[n]? = some r) (j : Jn r) : okW δ [n] := fun k hk ⟨c, e⟩ => by
  rw [List.mem_singleton.mp hk, h] at e
  rcases j with rfl | ⟨d, rfl⟩ <;> rcases e with e | e <;> cases e
end
end DL
namespace DL
open PySem L2
abbrev ad (K : PySem.W.Frag) (x : Str) : Addr := He.ga K x
def leStr (a b : Str) : Bool := decide (a.cps.toList ≤ b.cps.toList)
def ssort (xs : List Str) : List Str := xs.mergeSort leStr
def isort (xs : List Int) : List Int := xs.mergeSort fun a b => decide (a ≤ b)
theorem leS_eq : TX.leS = leStr := by
  funext a b
  unfold TX.leS leStr
  have h := PySem.W.dataLe_str (fun x : Str => x)
  exact congrFun (congrFun h a) b
theorem mergeSort_map {α β : Type} (f : α → β) (r : α → α → Bool) (s : β → β → Bool) (h : ∀ a b, s (f a) (f b) = r a b) (xs : List α) : (xs.map f).mergeSort s = (xs.mergeSort r).map f :=
  (List.map_mergeSort (f := f) (r := r) (s := s) fun a _ b _ => (h a b).symm).symm
theorem sSorted_of {α : Type} {f : α → D} {g : α → PyData} (k : Knd f g) (r : α → α → Bool) (hr : PySem.W.dataLe false g = r) (hd : ∀ a, (g a).depth ≤ 40) (hal : ∀ a b, PySem.W.alike (g a) (g b) = true) (hs : (∀ a, ∃ x y, g a = .tuple (x :: y)) ∨ ∀ a, g a ≠ .none ∧ ∀ xs, g a ≠ .tuple xs)
    (xs : List α) (Q : SD → Prop) : sSorted (.lst (xs.map f)) Q = Q (.o (.l ((xs.mergeSort r).map f))) := by
  have he : (xs.map f).map encD = xs.map g := by
    rw [List.map_map]
    refine List.map_congr_left fun a _ => ?_
    show (toP (f a)).getD .none = g a
    rw [k.to]; rfl
  have hl : ∀ a b, leD (f a) (f b) = r a b := fun a b => by
    rw [← hr]
    show PySem.W.dataLe false encD (f a) (f b) = _
    rw [PySem.W.dataLe_eq, PySem.W.dataLe_eq]
    show (!PySem.W.dataLt (encD (f b)) (encD (f a))) = _
    unfold encD
    rw [k.to, k.to]
    rfl
  unfold sSorted
  simp only
  rw [he, mergeSort_map f r leD hl]
  refine propext ⟨fun h => h.2.2.2, fun h => ⟨fun d hx => ?_, PySem.W.AllAlike.of hal, ?_, h⟩⟩
  · obtain ⟨a, _, rfl⟩ := List.mem_map.mp hx
    unfold eqOk
    rw [k.to]
    exact decide_eq_true (hd a)
  · rcases hs with hs | hs
    · exact PySem.W.Sortable.tuples hs
    · exact PySem.W.Sortable.others hs
theorem sSorted_str (xs : List Str) (Q : SD → Prop) : sSorted (.lst (xs.map .str)) Q = Q (.o (.l ((ssort xs).map .str))) :=
  sSorted_of Knd.str leStr leS_eq (fun a => by rw [depth_str]; exact Nat.zero_le _) (fun _ _ => rfl) (.inr fun a => ⟨fun h => (nomatch h), fun _ h => (nomatch h)⟩) xs Q
theorem sSorted_int (xs : List Int) (Q : SD → Prop) : sSorted (.lst (xs.map .int)) Q = Q (.o (.l ((isort xs).map .int))) :=
  sSorted_of Knd.int (fun a b => decide (a ≤ b)) (PySem.W.dataLe_int fun x => x) (fun a => by rw [depth_int]; exact Nat.zero_le _) (fun _ _ => rfl) (.inr fun a => ⟨fun h => (nomatch h), fun _ h => (nomatch h)⟩) xs Q
theorem isort_perm (xs : List Int) : (isort xs).Perm xs := List.mergeSort_perm _ _
theorem ssort_perm (xs : List Str) : (ssort xs).Perm xs := List.mergeSort_perm _ _
theorem isort_sorted (xs : List Int) : (isort xs).Pairwise (· ≤ ·) := by
  have h := List.pairwise_mergeSort (le := fun a b : Int => decide (a ≤ b)) (fun a b c h1 h2 => by simp at *; omega) (fun a b => by simp; omega) xs
  exact h.imp fun h => by simpa using h
theorem le_antis {a b : Str} (h1 : leStr a b = true) (h2 : leStr b a = true) : a = b := by
  have h1' := of_decide_eq_true h1
  have h2' := of_decide_eq_true h2
  have e := List.le_antisymm h1' h2'
  cases a; cases b
  simp only [Str.mk.injEq]
  exact Array.toList_inj.mp e
theorem le_trans' {a b c : Str} (h1 : leStr a b = true) (h2 : leStr b c = true) : leStr a c = true := decide_eq_true (List.le_trans (of_decide_eq_true h1) (of_decide_eq_true h2))
theorem le_total' (a b : Str) : (leStr a b || leStr b a) = true := by
  unfold leStr
  rcases List.le_total a.cps.toList b.cps.toList with h | h
  · simp [h]
  · simp [h]
theorem ssort_sorted (xs : List Str) : (ssort xs).Pairwise fun a b => leStr a b = true := List.pairwise_mergeSort (le := leStr) (fun _ _ _ => le_trans') le_total' xs
theorem isort_len (xs : List Int) : (isort xs).length = xs.length := (isort_perm xs).length_eq
theorem ssort_len (xs : List Str) : (ssort xs).length = xs.length := (ssort_perm xs).length_eq
theorem isort_mem {xs : List Int} {x : Int} : x ∈ isort xs ↔ x ∈ xs := (isort_perm xs).mem_iff
theorem ssort_mem {xs : List Str} {x : Str} : x ∈ ssort xs ↔ x ∈ xs := (ssort_perm xs).mem_iff
section
variable {κ β : Type} [DecidableEq κ]
def lookA (kvs : List (κ × β)) (k : κ) : Option β := (kvs.find? fun p => decide (p.1 = k)).map (·.2)
def putA (kvs : List (κ × β)) (k : κ) (v : β) : List (κ × β) := if (kvs.any fun p => decide (p.1 = k)) = true then kvs.map (fun p => if p.1 = k then (p.1, v) else p) else kvs ++ [(k, v)]
def encA (e : κ → Key) (f : β → D) (kvs : List (κ × β)) : List (Key × D) := kvs.map fun p => (e p.1, f p.2)
variable {e : κ → Key} {f : β → D}
theorem valG_enc (he : ∀ a b, e a = e b ↔ a = b) (kvs : List (κ × β)) (k : κ) : valG (encA e f kvs) (e k) = (lookA kvs k).map f := by
  unfold valG lookA encA
  rw [List.find?_map, Option.map_map, Option.map_map]
  have : ((fun p : Key × D => decide (p.1 = e k)) ∘ fun p : κ × β => (e p.1, f p.2)) = fun p : κ × β => decide (p.1 = k) := by
    funext p
    simp [he]
  rw [this]
  rfl
theorem putG_enc (he : ∀ a b, e a = e b ↔ a = b) (kvs : List (κ × β)) (k : κ) (v : β) : putG (encA e f kvs) (e k) (f v) = encA e f (putA kvs k v) := by
  unfold putG putA encA
  have h1 : ((kvs.map fun p => (e p.1, f p.2)).any fun p => decide (p.1 = e k)) = kvs.any fun p => decide (p.1 = k) := by
    rw [List.any_map]
    congr 1
    funext p
    simp [he]
  rw [h1]
  split
  · rw [List.map_map, List.map_map]
    refine List.map_congr_left fun p _ => ?_
    simp only [Function.comp]
    by_cases q : p.1 = k
    · simp [q]
    · simp [q, he]
  · simp
end
theorem inl_iff (a b : Int) : (Sum.inl a : Key) = Sum.inl b ↔ a = b := by simp
theorem inr_iff (a b : Str) : (Sum.inr a : Key) = Sum.inr b ↔ a = b := by simp
abbrev encS {β : Type} (f : β → D) (kvs : List (Str × β)) : List (Key × D) := encA Sum.inr f kvs
theorem valG_I {β : Type} {f : β → D} (kvs : List (Int × β)) (k : Int) : valG (encA Sum.inl f kvs) (Sum.inl k) = (lookA kvs k).map f := valG_enc inl_iff kvs k
theorem valG_S {β : Type} {f : β → D} (kvs : List (Str × β)) (k : Str) : valG (encA Sum.inr f kvs) (Sum.inr k) = (lookA kvs k).map f := valG_enc inr_iff kvs k
theorem putG_I {β : Type} {f : β → D} (kvs : List (Int × β)) (k : Int) (v : β) : putG (encA Sum.inl f kvs) (Sum.inl k) (f v) = encA Sum.inl f (putA kvs k v) := putG_enc inl_iff kvs k v
theorem putG_S {β : Type} {f : β → D} (kvs : List (Str × β)) (k : Str) (v : β) : putG (encA Sum.inr f kvs) (Sum.inr k) (f v) = encA Sum.inr f (putA kvs k v) := putG_enc inr_iff kvs k v
theorem encA_len {κ β : Type} {e : κ → Key} {f : β → D} (kvs : List (κ × β)) : (encA e f kvs).length = kvs.length := List.length_map _
theorem keys_I {β : Type} {f : β → D} (kvs : List (Int × β)) : (encA Sum.inl f kvs).map (fun p => dKey p.1) = (kvs.map (·.1)).map .int := by
  unfold encA
  rw [List.map_map, List.map_map]
  rfl
theorem keys_S {β : Type} {f : β → D} (kvs : List (Str × β)) : (encA Sum.inr f kvs).map (fun p => dKey p.1) = (kvs.map (·.1)).map .str := by
  unfold encA
  rw [List.map_map, List.map_map]
  rfl
section
variable {κ β : Type} [DecidableEq κ]
theorem lookA_isSome {kvs : List (κ × β)} {k : κ} : (lookA kvs k).isSome = decide (k ∈ kvs.map (·.1)) := by
  unfold lookA
  rw [Option.isSome_map]
  induction kvs with
  | nil => rfl
  | cons p r ih =>
    rw [List.find?_cons]
    by_cases q : p.1 = k
    · simp [q]
    · have q' : ¬ k = p.1 := fun h => q h.symm
      simp only [q, decide_false, ih, List.map_cons, List.mem_cons, q', false_or]
end
theorem put_len {κ β : Type} [DecidableEq κ] (kvs : List (κ × β)) (k : κ) (v : β) : (putA kvs k v).length ≤ kvs.length + 1 := by
  unfold putA
  split <;> simp
theorem log_small {m : Int} (h : m.natAbs < 2 ^ 9000) : m.natAbs.log2 < 9000 := by
  by_cases z : m.natAbs = 0
  · rw [z]; decide
  · exact (Nat.log2_lt z).mpr h
theorem log_of {m : Int} {n : Nat} (h : m.natAbs < 2 ^ n) (hn : n ≤ 9000) : m.natAbs.log2 < 9000 := log_small (Nat.lt_of_lt_of_le h (Nat.pow_le_pow_right (by decide) hn))
theorem log_5000 {m : Int} (h0 : 0 ≤ m) (h : m ≤ 100000) : m.natAbs.log2 < 9000 := log_of (n := 20) (by omega) (by decide)
theorem insert_perm {α : Type} (xs : List α) (d : α) (k : Nat) : (xs.take k ++ [d] ++ xs.drop k).Perm (xs ++ [d]) := by
  have h : (xs.take k ++ [d] ++ xs.drop k).Perm (xs.take k ++ xs.drop k ++ [d]) := by
    rw [List.append_assoc, List.append_assoc]
    exact List.Perm.append_left _ List.perm_append_comm
  rwa [List.take_append_drop] at h
end DL
namespace PySem.SeqAt
open AutoSeq1 (wpAny_loadPart')
open MeetsSeq MeetsSeq2 MeetsSeq3 SeqRoads2
section
variable {prog : Program} {w : World}
theorem dl_ne_loopIn (l b : Addr) (items items2 : Array Value) (n n2 : Nat) (dd dd2 : Option Addr) (sl sl2 : Array (Option Value)) (hsz : items.size = items2.size) (e : Nat → Bool) (k : Nat) :
    ∀ i : Nat, items.size - i = k → MeetsIn prog w (Builtin.«list.__eq__.loop» ⟨[.ref l, .ref b, rawInt i, rawInt 3], []⟩)
      (fun A R s => s.heap.get? l = some { cls := .type "list", dict := dd, data := .seq items n, slots := sl } ∧ s.heap.get? b = some { cls := .type "list", dict := dd2, data := .seq items2 n2, slots := sl2 } ∧
        (∀ j (h1 : j < items.size) (h2 : j < items2.size), EqP prog w A.in1 s items[j] items2[j] (e j)) ∧
        R (.ok (.ret (.bool (!((List.range items.size).drop i).all e)))) s) := by
  induction k with
  | zero =>
    intro i hk A R s h
    obtain ⟨hp, g, d, tk, os⟩ := s; obtain ⟨hl, hb, he, h⟩ := h
    wp_walk using wpAny_loadPart' hl, wpAny_loadPart' hb
    have hi1 : items[((i : Nat) : Int).toNat]? = none := by simp; omega
    have hi2 : items2[((i : Nat) : Int).toNat]? = none := by simp; omega
    have hd : (List.range items.size).drop i = [] := by simp; omega
    rw [hd] at h
    rw [hi1, hi2]
    wp_walk using wpAny_loadPart' hl, wpAny_loadPart' hb
    show R (.ok (.ret (.bool (items.size != items2.size)))) _
    rw [hsz]
    simpa using h
  | succ k ih =>
    intro i hk A R s h
    obtain ⟨hp, g, d, tk, os⟩ := s; obtain ⟨hl, hb, he, h⟩ := h
    wp_walk using wpAny_loadPart' hl, wpAny_loadPart' hb
    have hlt : i < items.size := by omega
    have hlt2 : i < items2.size := by omega
    have hi1 : items[((i : Nat) : Int).toNat]? = some items[i] := by simp [hlt]
    have hi2 : items2[((i : Nat) : Int).toNat]? = some items2[i] := by simp [hlt2]
    have hd : (List.range items.size).drop i = i :: (List.range items.size).drop (i + 1) := by simp [List.drop_eq_getElem_cons, hlt]
    have hc : ((i : Int) + 1) = ((i + 1 : Nat) : Int) := by push_cast; rfl
    rw [hd, List.all_cons] at h
    rw [hi1, hi2]
    refine wpAny_bind (he i hlt hlt2 _ _ ?_)
    cases hb' : e i with
    | true =>
      rw [hb'] at h
      wp_walk
      rw [hc]
      exact ⟨plainId_quiet plain_eq_loop _, codeAny_builtin entry_eq_loop (by
        rw [Around.under_plainId plain_eq_loop _]
        exact ih (i + 1) (by omega) A R _ ⟨hl, hb, he, by simpa using h⟩)⟩
    | false =>
      rw [hb'] at h
      wp_walk using wpAny_loadPart' hl, wpAny_loadPart' hb
      rw [hi1, hi2]
      wp_walk
      simpa using h
theorem dl_list_neIn (l b : Addr) (items items2 : Array Value) (n n2 : Nat) (dd dd2 : Option Addr) (sl sl2 : Array (Option Value)) (hsz : items.size = items2.size) (e : Nat → Bool) :
    MeetsIn prog w (Builtin.«list.__ne__» ⟨[.ref l, .ref b], []⟩)
      (fun A R s => s.heap.get? l = some { cls := .type "list", dict := dd, data := .seq items n, slots := sl } ∧ s.heap.get? b = some { cls := .type "list", dict := dd2, data := .seq items2 n2, slots := sl2 } ∧
        (∀ j (h1 : j < items.size) (h2 : j < items2.size), EqP prog w A.in1 s items[j] items2[j] (e j)) ∧
        R (.ok (.ret (.bool (!(List.range items.size).all e)))) s) := by
  intro A R s h
  obtain ⟨hp, g, d, tk, os⟩ := s; obtain ⟨hl, hb, he, h⟩ := h
  have f3 := AutoSeq1.sub_list_list
  have hne : ¬ (items.size != items2.size) = true := by simp [hsz]
  wp_walk using wpAny_loadPart' hl, wpAny_loadPart' hb
  exact ⟨plainId_quiet plain_eq_loop _, codeAny_builtin entry_eq_loop (by
    rw [Around.under_plainId plain_eq_loop _]
    exact dl_ne_loopIn l b items items2 n n2 dd dd2 sl sl2 hsz e _ 0 rfl A R _ ⟨hl, hb, he, by simpa using h⟩)⟩
theorem neP_lists {A : Around} {s : Shared} {l b : Addr} {items items2 : Array Value} {e : Nat → Bool} (hl : s.heap.IsList l items) (hb : s.heap.IsList b items2) (hsz : items.size = items2.size) (hu : A.units < cLine)
    (he : ∀ j (h1 : j < items.size) (h2 : j < items2.size), EqP prog w A.in1 s items[j] items2[j] (e j)) (E Q : Value → Shared → Prop) (h : Q (.bool (!(List.range items.size).all e)) s) : wpAny (model prog w) A (richCompare .NotEq (.ref l) (.ref b)) Q E s := by
  obtain ⟨⟨cls, dd, data, sl⟩, ho, hc, n, hd⟩ := id hl
  obtain ⟨⟨cls2, dd2, data2, sl2⟩, ho2, hc2, n2, hd2⟩ := id hb
  simp only at hc hd hc2 hd2
  subst hc hd hc2 hd2
  have ta : s.TypeIs (.ref l) "list" := ⟨_, ho, rfl⟩
  have tb : s.TypeIs (.ref b) "list" := ⟨_, ho2, rfl⟩
  exact wpAny_richCompare_same_room (op := .NotEq) ta tb F.slot_list_ne (call_meetsIn F.slot_list_ne ta F.entry_list_ne (F.args_list_ne_2 _ _) (dl_list_neIn l b items items2 n n2 dd dd2 sl sl2 hsz e)
    ⟨ho, ho2, he, show Value.bool (!(List.range items.size).all e) ≠ Value.notImplemented ∧ Q (.bool (!(List.range items.size).all e)) s from ⟨(fun x => nomatch x), h⟩⟩) hu
end
end PySem.SeqAt
namespace DL
open PySem L2
def plainEq (x y : D) : Option Bool := if eqOk x && eqOk y then some (deq x y) else none
def allO (f : D → D → Option Bool) : List D → List D → Option Bool
  | x :: xs, y :: ys => match f x y, allO f xs ys with
    | some a, some b => some (a && b)
    | _, _ => none
  | _, _ => some true
def dicO (f : D → D → Option Bool) (kb : List (Key × D)) : List (Key × D) → Option Bool
  | [] => some true
  | (k, v) :: r => match valG kb k with
    | none => some false
    | some y => match f v y, dicO f kb r with
      | some a, some b => some (a && b)
      | _, _ => none
def geqN : Nat → D → D → Option Bool
  | 0, x, y => plainEq x y
  | n + 1, x, y => match plainEq x y with
    | some b => some b
    | none => match x, y with
      | .lst xs, .lst ys => if xs.length = ys.length then allO (geqN n) xs ys else some false
      | .dic a, .dic b => if (a.map (·.1)).Nodup then (if a.length = b.length then dicO (geqN n) b a else some false) else none
      | _, _ => none
section
variable {K : PySem.W.Frag} {F : Hp}
mutual
theorem Rep.toP_same : ∀ {x y : D} {v : V} {p q : PyData}, Rep K F v x → Rep K F v y → toP x = some p → toP y = some q → p = q
  | .non, _, _, _, _, r, r', h, h' => by
    cases r; cases r' <;> first | (simp only [toP] at h h'; cases h; cases h'; rfl) | (simp only [toP] at h'; cases h')
  | .bl b, _, _, _, _, r, r', h, h' => by
    cases r; cases r' <;> first | (simp only [toP] at h h'; cases h; cases h'; rfl) | (simp only [toP] at h'; cases h')
  | .int i, _, _, _, _, r, r', h, h' => by
    cases r; cases r' <;> first | (simp only [toP] at h h'; cases h; cases h'; rfl) | (simp only [toP] at h'; cases h')
  | .str z, _, _, _, _, r, r', h, h' => by
    cases r; cases r' <;> first | (simp only [toP] at h h'; cases h; cases h'; rfl) | (simp only [toP] at h'; cases h')
  | .lst xs, y, _, _, _, r, r', h, h' => by
    cases r with
    | lst e1 l1 =>
      cases r' with
      | lst e2 l2 =>
        rw [e1] at e2; cases e2
        simp only [toP] at h h'
        split at h
        · split at h'
          · rename_i ps ep _ qs eq
            cases h; cases h'
            rw [RepL.toP_same l1 l2 ep eq]
          · cases h'
        · cases h
      | tup e2 l2 => rw [e1] at e2; cases e2
      | _ => simp only [toP] at h'; cases h'
  | .tup xs, y, _, _, _, r, r', h, h' => by
    cases r with
    | tup e1 l1 =>
      cases r' with
      | tup e2 l2 =>
        rw [e1] at e2; cases e2
        simp only [toP] at h h'
        split at h
        · split at h'
          · rename_i ps ep _ qs eq
            cases h; cases h'
            rw [RepL.toP_same l1 l2 ep eq]
          · cases h'
        · cases h
      | lst e2 l2 => rw [e1] at e2; cases e2
      | _ => simp only [toP] at h'; cases h'
  | .dic _, _, _, _, _, _, _, h, _ => by simp only [toP] at h; cases h
  | .dct _, _, _, _, _, _, _, h, _ => by simp only [toP] at h; cases h
  | .obj _ _, _, _, _, _, _, _, h, _ => by simp only [toP] at h; cases h
  | .scr _, _, _, _, _, _, _, h, _ => by simp only [toP] at h; cases h
  | .vv _, _, _, _, _, _, _, h, _ => by simp only [toP] at h; cases h
  | .exc _ _ _ _ _, _, _, _, _, _, _, h, _ => by simp only [toP] at h; cases h
  | .at _ _, _, _, _, _, _, _, h, _ => by simp only [toP] at h; cases h
theorem RepL.toP_same : ∀ {xs ys : List D} {vs : List V} {ps qs : List PyData}, RepL K F vs xs → RepL K F vs ys → toPs xs = some ps → toPs ys = some qs → ps = qs
  | [], _, _, _, _, r, r', h, h' => by
    cases r; cases r'
    simp only [toPs] at h h'
    cases h; cases h'; rfl
  | x :: xs, _, _, _, _, r, r', h, h' => by
    cases r with
    | cons a b =>
      cases r' with
      | cons a' b' =>
        simp only [toPs] at h h'
        split at h
        · split at h'
          · rename_i p ps e1 e2 _ _ q qs e3 e4
            cases h; cases h'
            rw [Rep.toP_same a a' e1 e3, RepL.toP_same b b' e2 e4]
          · cases h'
        · cases h
end
theorem plainEq_same {x y : D} {v : V} {b : Bool} (r : Rep K F v x) (r' : Rep K F v y) (h : plainEq x y = some b) : b = true := by
  unfold plainEq at h
  split at h
  · rename_i e
    obtain ⟨e1, e2⟩ := Bool.and_eq_true_iff.mp e
    obtain ⟨p, hp, _⟩ := eqOk_some e1
    obtain ⟨q, hq, _⟩ := eqOk_some e2
    cases h
    rw [deq_of hp hq, r.toP_same r' hp hq]
    exact PySem.SeqAt.eqv_refl_plain q (toP_plain hq)
  · cases h
theorem valG_nodup : ∀ {vs : List (Key × V)} {as ds : List (Key × D)}, RepK K F vs as → RepK K F vs ds → (as.map (·.1)).Nodup → ∀ (p : Key × D), p ∈ as → ∃ v y, valG ds p.1 = some y ∧ Rep K F v p.2 ∧ Rep K F v y
  | [], _, _, .nil, _, _, p, hp => nomatch hp
  | (k, v) :: vs, (_, d) :: as, (_, d') :: ds, .cons hd ht, .cons hd' ht', nd, p, hp => by
    simp only [List.map_cons, List.nodup_cons] at nd
    rcases List.mem_cons.mp hp with rfl | hp
    · refine ⟨v, d', ?_, hd, hd'⟩
      unfold valG
      simp
    · obtain ⟨w, y, e1, e2, e3⟩ := valG_nodup ht ht' nd.2 p hp
      refine ⟨w, y, ?_, e2, e3⟩
      have ne : ¬ k = p.1 := fun z => nd.1 (z ▸ List.mem_map_of_mem hp)
      unfold valG at e1 ⊢
      rw [List.find?_cons]
      simp only [ne, decide_false]
      exact e1
theorem allO_same {f : D → D → Option Bool} (hf : ∀ {x y : D} {v : V} {b : Bool}, Rep K F v x → Rep K F v y → f x y = some b → b = true) : ∀ {vs : List V} {xs ys : List D} {b : Bool}, RepL K F vs xs → RepL K F vs ys → allO f xs ys = some b → b = true
  | [], _, _, _, .nil, .nil, h => by cases h; rfl
  | _ :: _, _, _, _, .cons a t, .cons a' t', h => by
    unfold allO at h
    split at h
    · rename_i p q e1 e2
      cases h
      rw [hf a a' e1, allO_same hf t t' e2]
      rfl
    · cases h
theorem dicO_same {f : D → D → Option Bool} {kb : List (Key × D)} (hf : ∀ {x y : D} {v : V} {b : Bool}, Rep K F v x → Rep K F v y → f x y = some b → b = true) : ∀ {as : List (Key × D)} {b : Bool}, (∀ p ∈ as, ∃ v y, valG kb p.1 = some y ∧ Rep K F v p.2 ∧ Rep K F v y) → dicO f kb as = some b → b = true
  | [], _, _, h => by cases h; rfl
  | (k, d) :: r, b, hp, h => by
    obtain ⟨v, y, e1, e2, e3⟩ := hp _ List.mem_cons_self
    unfold dicO at h
    simp only at e1
    rw [e1] at h
    simp only at h
    split at h
    · rename_i p q e4 e5
      cases h
      rw [hf e2 e3 e4, dicO_same hf (fun p hp' => hp p (List.mem_cons_of_mem _ hp')) e5]
      rfl
    · cases h
theorem geq_same : ∀ (n : Nat) {x y : D} {v : V} {b : Bool}, Rep K F v x → Rep K F v y → geqN n x y = some b → b = true
  | 0, _, _, _, _, r, r', h => plainEq_same r r' h
  | n + 1, x, y, v, b, r, r', h => by
    unfold geqN at h
    split at h
    · rename_i b' e
      cases h
      exact plainEq_same r r' e
    · split at h
      · rename_i xs ys _
        cases r with
        | lst e1 l1 =>
          cases r' with
          | lst e2 l2 =>
            rw [e1] at e2; cases e2
            rw [if_pos (by rw [← l1.len, ← l2.len])] at h
            exact allO_same (geq_same n) l1 l2 h
      · rename_i ka kb _
        split at h
        · rename_i nd
          cases r with
          | dic e1 l1 =>
            cases r' with
            | dic e2 l2 =>
              rw [e1] at e2; cases e2
              rw [if_pos (by rw [← l1.len, ← l2.len])] at h
              exact dicO_same (geq_same n) (valG_nodup l1 l2 nd) h
        · cases h
      · cases h
end
section
variable {X : Cx} {pins : List (Addr × Obj)} {σ : St} {F H : Hp} {s : Shared}
theorem allO_len {f : D → D → Option Bool} : ∀ {xs ys : List D} {b : Bool}, xs.length = ys.length → allO f xs ys = some b → ∃ e : Nat → Bool, (∀ j (h1 : j < xs.length) (h2 : j < ys.length), f xs[j] ys[j] = some (e j)) ∧ b = (List.range xs.length).all e
  | [], [], _, _, h => by cases h; exact ⟨fun _ => true, fun j h1 => absurd h1 (Nat.not_lt_zero j), rfl⟩
  | x :: xs, y :: ys, b, hl, h => by
    unfold allO at h
    split at h
    · rename_i p q e1 e2
      cases h
      obtain ⟨e, h1, h2⟩ := allO_len (by simpa using hl) e2
      refine ⟨fun j => match j with | 0 => p | j + 1 => e j, fun j g1 g2 => ?_, ?_⟩
      · cases j with
        | zero => exact e1
        | succ j => exact h1 j (Nat.lt_of_succ_lt_succ g1) (Nat.lt_of_succ_lt_succ g2)
      · rw [h2, List.length_cons, List.range_succ_eq_map, List.all_cons, List.all_map]
        rfl
    · cases h
  | [], _ :: _, _, hl, _ => by cases hl
  | _ :: _, [], _, hl, _ => by cases hl
theorem geq_run (I : Inv X pins σ H s) (sub : Same F H) : ∀ (n : Nat) (A : Around), A.units + n + 45 < cLine → ∀ {x y : D} {v u : V} {v' u' : Value} {b : Bool}, Rep X.K F v x → Rep X.K F u y → RelV v v' → RelV u u' → geqN n x y = some b → SeqAt.EqP X.prog X.w A s v' u' b := by
  have plain : ∀ (A : Around), A.units + 45 < cLine → ∀ {x y : D} {v u : V} {v' u' : Value} {b : Bool}, Rep X.K F v x → Rep X.K F u y → RelV v v' → RelV u u' → plainEq x y = some b → SeqAt.EqP X.prog X.w A s v' u' b := by
    intro A hu x y v u v' u' b r r' rv ru h
    unfold plainEq at h
    split at h
    · rename_i e
      obtain ⟨e1, e2⟩ := Bool.and_eq_true_iff.mp e
      obtain ⟨p, hp, dp⟩ := eqOk_some e1
      obtain ⟨q, hq, _⟩ := eqOk_some e2
      cases h
      rw [deq_of hp hq]
      obtain ⟨as, r1⟩ := Dp.reads I p v v' (r.dp sub hp) rv
      obtain ⟨bs, r2⟩ := Dp.reads I q u u' (r'.dp sub hq) ru
      exact (SeqAt.eqAt_plain p q A s v' u' as bs r1 r2 (toP_plain hp) (toP_plain hq) (by have := Nat.min_le_left p.depth q.depth; omega)).eqP
    · cases h
  intro n
  induction n with
  | zero => intro A hu x y v u v' u' b r r' rv ru h; exact plain A (by omega) r r' rv ru h
  | succ n ih =>
    intro A hu x y v u v' u' b r r' rv ru h
    have same := fun (e : v = u) => geq_same (n + 1) r (e ▸ r') h
    unfold geqN at h
    split at h
    · rename_i b' e
      cases h
      exact plain A (by omega) r r' rv ru e
    · split at h
      · rename_i xs ys _
        cases r with
        | @lst a vs _ e1 l1 =>
          cases r' with
          | @lst c us _ e2 l2 =>
            cases (show v' = Value.ref a from rv)
            cases (show u' = Value.ref c from ru)
            by_cases hac : a = c
            · subst hac
              rw [same rfl]
              exact (SeqAt.EqAt.same _).eqP
            · obtain ⟨its, q1, p1, _⟩ := I.list (.of (sub _ _ e1))
              obtain ⟨jts, q2, p2, _⟩ := I.list (.of (sub _ _ e2))
              have n1 : its.length = xs.length := by rw [← q1.length, l1.len]
              have n2 : jts.length = ys.length := by rw [← q2.length, l2.len]
              split at h
              · rename_i hl
                obtain ⟨e, h1, rfl⟩ := allO_len hl h
                refine SeqAt.eqP_refs hac fun E Q q => SeqAt.rcP_lists (e := e) p1.isList p2.isList (by simp only [List.size_toArray]; omega) (by omega) (fun j g1 g2 => ?_) E Q (by
                  simp only [List.size_toArray]
                  rw [n1]; exact q)
                simp only [List.size_toArray] at g1 g2
                obtain ⟨x1, hx1, rx1⟩ := l1.get' (i := j) (v := vs[j]'(by rw [l1.len, ← n1]; exact g1)) (List.getElem?_eq_getElem _)
                obtain ⟨y1, hy1, ry1⟩ := l2.get' (i := j) (v := us[j]'(by rw [l2.len, ← n2]; exact g2)) (List.getElem?_eq_getElem _)
                have hx2 : xs[j]'(by omega) = x1 := by
                  have := List.getElem?_eq_getElem (l := xs) (i := j) (by omega)
                  rw [hx1] at this; exact (Option.some.inj this).symm
                have hy2 : ys[j]'(by omega) = y1 := by
                  have := List.getElem?_eq_getElem (l := ys) (i := j) (by omega)
                  rw [hy1] at this; exact (Option.some.inj this).symm
                have hf := h1 j (by omega) (by omega)
                rw [hx2, hy2] at hf
                have k1 := q1.get (i := j) (x := vs[j]'(by rw [l1.len, ← n1]; exact g1)) (List.getElem?_eq_getElem _)
                have k2 := q2.get (i := j) (x := us[j]'(by rw [l2.len, ← n2]; exact g2)) (List.getElem?_eq_getElem _)
                obtain ⟨w1, k1, k3⟩ := k1
                obtain ⟨w2, k2, k4⟩ := k2
                have z1 : its[j] = w1 := by
                  have := List.getElem?_eq_getElem (l := its) (i := j) g1
                  rw [k1] at this; exact (Option.some.inj this).symm
                have z2 : jts[j] = w2 := by
                  have := List.getElem?_eq_getElem (l := jts) (i := j) g2
                  rw [k2] at this; exact (Option.some.inj this).symm
                have z := ih A.in1 (by show A.units + 1 + n + 45 < cLine; omega) rx1 ry1 k3 k4 hf
                simp only [List.getElem_toArray]
                rw [z1, z2]
                exact z
              · rename_i hl
                cases h
                refine SeqAt.eqP_refs hac fun E Q q => SeqAt.RcAt.lists_lengths p1.isList p2.isList (by simp only [List.size_toArray, bne_iff_ne]; omega) (by omega) X.prog X.w E Q q
      · rename_i ka kb _
        split at h
        · rename_i nd
          cases r with
          | @dic a vs _ e1 l1 =>
            cases r' with
            | @dic c us _ e2 l2 =>
              cases (show v' = Value.ref a from rv)
              cases (show u' = Value.ref c from ru)
              by_cases hac : a = c
              · subst hac
                rw [same rfl]
                exact (SeqAt.EqAt.same _).eqP
              · obtain ⟨_, ya, va, ra, da⟩ := (show ObjOk X.prog X.w H s.heap a (.dK vs) from I.hok a _ (sub _ _ e1))
                obtain ⟨_, yb, vb, rb, db⟩ := (show ObjOk X.prog X.w H s.heap c (.dK us) from I.hok c _ (sub _ _ e2))
                have n1 : va.length = ka.length := by rw [← ra.length, l1.len]
                have n2 : vb.length = kb.length := by rw [← rb.length, l2.len]
                have hits : ∀ {vs : List (Key × V)} {va : List (Key × Value)} {ka : List (Key × D)} {b : Bool}, KV vs va → RepK X.K F vs ka → dicO (geqN n) kb ka = some b → PySem.W.KeqHitsP X.prog X.w A.in1 s vb va b := by
                  intro vs va ka b ra
                  unfold KV at ra
                  induction ra generalizing ka b with
                  | nil => intro l h; cases l; cases h; exact .nil
                  | @cons p q ps qs hpq t ih2 =>
                    intro l h
                    obtain ⟨pk, pv⟩ := p
                    obtain ⟨qk, qv⟩ := q
                    obtain ⟨h1, h2⟩ := hpq
                    have h1' : pk = qk := h1
                    subst h1'
                    cases l with
                    | @cons _ _ _ d ds hd ht =>
                      unfold dicO at h
                      split at h
                      · rename_i en
                        cases h
                        refine .miss ?_
                        have e := (l2.val (k := pk)).2 en
                        have rr : RelO (valV us pk) (valueAt vb pk) := rb.val pk
                        rw [e] at rr
                        cases z : valueAt vb pk with
                        | none => rfl
                        | some w => rw [z] at rr; exact rr.elim
                      · rename_i y ey
                        split at h
                        · rename_i b1 b2 g1 g2
                          cases h
                          obtain ⟨yv, e, ry⟩ := (l2.val (k := pk)).1 y ey
                          have rr : RelO (valV us pk) (valueAt vb pk) := rb.val pk
                          rw [e] at rr
                          obtain ⟨w, hw, rw'⟩ := rr.some_of
                          exact .hit hw (ih A.in1 (by show A.units + 1 + n + 45 < cLine; omega) hd ry h2 rw' g1) (ih2 ht g2)
                        · cases h
                split at h
                · rename_i hl
                  refine SeqAt.eqP_refs hac fun E Q q => PySem.W.rcP_dicts (knd := mixKind X.prog X.w) ya yb da db (by omega) (fun _ => hits ra l1 h) E Q ?_
                  rw [show (va.length == vb.length && b) = b from by rw [show va.length = vb.length by omega]; simp]
                  exact q
                · rename_i hl
                  cases h
                  refine SeqAt.eqP_refs hac fun E Q q => PySem.W.rcP_dicts (knd := mixKind X.prog X.w) (r := false) ya yb da db (by omega) (fun e => absurd (by omega) hl) E Q ?_
                  rw [show (va.length == vb.length && false) = false from by simp]
                  exact q
        · cases h
      · cases h
end
end DL
namespace DL
open PySem L2
section
variable {X : Cx} {pins : List (Addr × Obj)} {σ : St} {F H : Hp} {s : Shared}
theorem items_geq (I : Inv X pins σ H s) (sub : Same F H) {n : Nat} {A : Around} (hu : A.units + n + 45 < cLine) {vs us : List V} {xs ys : List D} {its jts : List Value} {b : Bool} (l1 : RepL X.K F vs xs) (l2 : RepL X.K F us ys) (q1 : Vals vs its) (q2 : Vals us jts)
    (hl : xs.length = ys.length) (h : allO (geqN n) xs ys = some b) : ∃ e : Nat → Bool, (∀ j (h1 : j < its.toArray.size) (h2 : j < jts.toArray.size), SeqAt.EqP X.prog X.w A s its.toArray[j] jts.toArray[j] (e j)) ∧ b = (List.range its.toArray.size).all e := by
  have n1 : its.length = xs.length := by rw [← q1.length, l1.len]
  have n2 : jts.length = ys.length := by rw [← q2.length, l2.len]
  obtain ⟨e, h1, rfl⟩ := allO_len hl h
  refine ⟨e, fun j g1 g2 => ?_, by simp only [List.size_toArray]; rw [n1]⟩
  simp only [List.size_toArray] at g1 g2
  obtain ⟨x1, hx1, rx1⟩ := l1.get' (i := j) (v := vs[j]'(by rw [l1.len, ← n1]; exact g1)) (List.getElem?_eq_getElem _)
  obtain ⟨y1, hy1, ry1⟩ := l2.get' (i := j) (v := us[j]'(by rw [l2.len, ← n2]; exact g2)) (List.getElem?_eq_getElem _)
  have hx2 : xs[j]'(by omega) = x1 := by
    have := List.getElem?_eq_getElem (l := xs) (i := j) (by omega)
    rw [hx1] at this; exact (Option.some.inj this).symm
  have hy2 : ys[j]'(by omega) = y1 := by
    have := List.getElem?_eq_getElem (l := ys) (i := j) (by omega)
    rw [hy1] at this; exact (Option.some.inj this).symm
  have hf := h1 j (by omega) (by omega)
  rw [hx2, hy2] at hf
  obtain ⟨w1, k1, k3⟩ := q1.get (i := j) (x := vs[j]'(by rw [l1.len, ← n1]; exact g1)) (List.getElem?_eq_getElem _)
  obtain ⟨w2, k2, k4⟩ := q2.get (i := j) (x := us[j]'(by rw [l2.len, ← n2]; exact g2)) (List.getElem?_eq_getElem _)
  have z1 : its[j] = w1 := by
    have := List.getElem?_eq_getElem (l := its) (i := j) g1
    rw [k1] at this; exact (Option.some.inj this).symm
  have z2 : jts[j] = w2 := by
    have := List.getElem?_eq_getElem (l := jts) (i := j) g2
    rw [k2] at this; exact (Option.some.inj this).symm
  simp only [List.getElem_toArray]
  rw [z1, z2]
  exact geq_run I sub n A hu rx1 ry1 k3 k4 hf
theorem lists_run (I : Inv X pins σ H s) (sub : Same F H) {n : Nat} (hu : X.A.units + n + 46 < cLine) {a c : Addr} {vs us : List V} {xs ys : List D} {b : Bool} (h1 : SqL X.K H a vs) (h2 : SqL X.K H c us) (l1 : RepL X.K F vs xs) (l2 : RepL X.K F us ys)
    (h : (if xs.length = ys.length then allO (geqN n) xs ys else some false) = some b) (E Q : Value → Shared → Prop) :
    (Q (.bool b) s → wpAny (model X.prog X.w) X.A (richCompare .Eq (.ref a) (.ref c)) Q E s) ∧ (Q (.bool (!b)) s → wpAny (model X.prog X.w) X.A (richCompare .NotEq (.ref a) (.ref c)) Q E s) := by
  obtain ⟨its, q1, p1, _⟩ := I.list h1
  obtain ⟨jts, q2, p2, _⟩ := I.list h2
  have n1 : its.length = xs.length := by rw [← q1.length, l1.len]
  have n2 : jts.length = ys.length := by rw [← q2.length, l2.len]
  have hA : X.A.in1.units + n + 45 < cLine := by show X.A.units + 1 + n + 45 < cLine; omega
  split at h
  · rename_i hl
    obtain ⟨e, k1, rfl⟩ := items_geq I sub hA l1 l2 q1 q2 hl h
    exact ⟨fun q => SeqAt.rcP_lists (e := e) p1.isList p2.isList (by simp only [List.size_toArray]; omega) (by omega) k1 E Q q,
      fun q => SeqAt.neP_lists (e := e) p1.isList p2.isList (by simp only [List.size_toArray]; omega) (by omega) k1 E Q q⟩
  · rename_i hl
    cases h
    exact ⟨fun q => SeqAt.RcAt.lists_lengths p1.isList p2.isList (by simp only [List.size_toArray, bne_iff_ne]; omega) (by omega) X.prog X.w E Q q,
      fun q => SeqAt.RcNeAt.lists_lengths p1.isList p2.isList (by simp only [List.size_toArray, bne_iff_ne]; omega) (by omega) X.prog X.w E Q q⟩
theorem dicts_run (I : Inv X pins σ H s) (sub : Same F H) {n : Nat} (hu : X.A.units + n + 46 < cLine) {a c : Addr} {vs us : List (Key × V)} {ka kb : List (Key × D)} {b : Bool} (h1 : H a = some (.dK vs)) (h2 : H c = some (.dK us)) (l1 : RepK X.K F vs ka) (l2 : RepK X.K F us kb)
    (h : (if ka.length = kb.length then dicO (geqN n) kb ka else some false) = some b) (E Q : Value → Shared → Prop) (q : Q (.bool b) s) : wpAny (model X.prog X.w) X.A (richCompare .Eq (.ref a) (.ref c)) Q E s := by
  obtain ⟨_, ya, va, ra, da⟩ := (show ObjOk X.prog X.w H s.heap a (.dK vs) from I.hok a _ h1)
  obtain ⟨_, yb, vb, rb, db⟩ := (show ObjOk X.prog X.w H s.heap c (.dK us) from I.hok c _ h2)
  have n1 : va.length = ka.length := by rw [← ra.length, l1.len]
  have n2 : vb.length = kb.length := by rw [← rb.length, l2.len]
  have hits : ∀ {vs : List (Key × V)} {va : List (Key × Value)} {ka : List (Key × D)} {b : Bool}, KV vs va → RepK X.K F vs ka → dicO (geqN n) kb ka = some b → PySem.W.KeqHitsP X.prog X.w X.A.in1 s vb va b := by
    intro vs va ka b ra
    unfold KV at ra
    induction ra generalizing ka b with
    | nil => intro l h; cases l; cases h; exact .nil
    | @cons p q ps qs hpq t ih2 =>
      intro l h
      obtain ⟨pk, pv⟩ := p
      obtain ⟨qk, qv⟩ := q
      obtain ⟨h1, h2⟩ := hpq
      have h1' : pk = qk := h1
      subst h1'
      cases l with
      | @cons _ _ _ d ds hd ht =>
        unfold dicO at h
        split at h
        · rename_i en
          cases h
          refine .miss ?_
          have e := (l2.val (k := pk)).2 en
          have rr : RelO (valV us pk) (valueAt vb pk) := rb.val pk
          rw [e] at rr
          cases z : valueAt vb pk with
          | none => rfl
          | some w => rw [z] at rr; exact rr.elim
        · rename_i y ey
          split at h
          · rename_i b1 b2 g1 g2
            cases h
            obtain ⟨yv, e, ry⟩ := (l2.val (k := pk)).1 y ey
            have rr : RelO (valV us pk) (valueAt vb pk) := rb.val pk
            rw [e] at rr
            obtain ⟨w, hw, rw'⟩ := rr.some_of
            exact .hit hw (geq_run I sub n X.A.in1 (by show X.A.units + 1 + n + 45 < cLine; omega) hd ry h2 rw' g1) (ih2 ht g2)
          · cases h
  split at h
  · rename_i hl
    refine PySem.W.rcP_dicts (knd := mixKind X.prog X.w) ya yb da db (by omega) (fun _ => hits ra l1 h) E Q ?_
    rw [show (va.length == vb.length && b) = b from by rw [show va.length = vb.length by omega]; simp]
    exact q
  · rename_i hl
    cases h
    refine PySem.W.rcP_dicts (knd := mixKind X.prog X.w) (r := false) ya yb da db (by omega) (fun e => absurd (by omega) hl) E Q ?_
    rw [show (va.length == vb.length && false) = false from by simp]
    exact q
end
def geqT (x y : D) : Option Bool := match plainEq x y with
  | some b => some b
  | none => match x, y with
    | .lst xs, .lst ys => if xs.length = ys.length then allO (geqN 10) xs ys else some false
    | _, _ => none
def sEqX (neg : Bool) : S2 := fun x y Q => match geqT x y with
  | some b => Q (.d (.bl (neg ^^ b)))
  | none => False
section
variable {Φ : Fam} {W : WX} {o i a b e : Expr} {pos p : Pos}
def rEqX (K : PySem.W.Frag) (neg : Bool) : R2 := fun v u H Q => ∃ F a c vs us xs ys b, Same F H ∧ v = .ref a ∧ u = .ref c ∧ H a = some (.lst vs) ∧ H c = some (.lst us) ∧ RepL K F vs xs ∧ RepL K F us ys ∧ (if xs.length = ys.length then allO (geqN 10) xs ys else some false) = some b ∧ Q (.bl (neg ^^ b)) H
theorem op_eqX {X : Cx} (hu : X.A.units + 64 < cLine) : OpR X (compareOp .Eq) (rEqX X.K false) := by
  intro pins s σ H x y v u Q I rx ry h
  obtain ⟨F, a, c, vs, us, xs, ys, b, sub, rfl, rfl, h1, h2, l1, l2, h, q⟩ := h
  cases (show v = Value.ref a from rx)
  cases (show u = Value.ref c from ry)
  exact (lists_run I sub (n := 10) (by omega) (.of h1) (.of h2) l1 l2 h _ _).1 ⟨.bl _, H, I, rfl, by simpa using q⟩
theorem op_neX {X : Cx} (hu : X.A.units + 64 < cLine) : OpR X (compareOp .NotEq) (rEqX X.K true) := by
  intro pins s σ H x y v u Q I rx ry h
  obtain ⟨F, a, c, vs, us, xs, ys, b, sub, rfl, rfl, h1, h2, l1, l2, h, q⟩ := h
  cases (show v = Value.ref a from rx)
  cases (show u = Value.ref c from ry)
  exact (lists_run I sub (n := 10) (by omega) (.of h1) (.of h2) l1 l2 h _ _).2 ⟨.bl _, H, I, rfl, by simpa using q⟩
theorem plainEq_some {x y : D} {b : Bool} (h : plainEq x y = some b) : eqOk x = true ∧ eqOk y = true ∧ b = deq x y := by
  unfold plainEq at h
  split at h
  · rename_i e
    obtain ⟨e1, e2⟩ := Bool.and_eq_true_iff.mp e
    cases h
    exact ⟨e1, e2, rfl⟩
  · cases h
theorem bin_X {f : Value → Value → Sem Value} {neg : Bool} (h1 : ∀ i, OpR (Φ.X i) f (rEqP (Φ.X i).K neg)) (h2 : ∀ i, OpR (Φ.X i) f (rEqX (Φ.X i).K neg)) : BinD Φ f (sEqX neg) := by
  refine ⟨_, fun i => OpR.or (r := rEqP Φ.K neg) (r' := rEqX Φ.K neg) (by have h := h1 i; rw [Φ.hK i] at h; exact h) (by have h := h2 i; rw [Φ.hK i] at h; exact h), fun B F H σ δ x y v u Q Qh r hx hy hs p => ?_⟩
  unfold sEqX at hs
  split at hs
  · rename_i b eb
    unfold geqT at eb
    split at eb
    · rename_i b' e
      cases eb
      obtain ⟨h1, h2, rfl⟩ := plainEq_some e
      obtain ⟨px, e1, d1⟩ := eqOk_some h1
      obtain ⟨py, e2, d2⟩ := eqOk_some h2
      rw [deq_of e1 e2] at hs
      refine .inl ⟨px, py, hx.dp r.sub e1, hy.dp r.sub e2, toP_plain e1, toP_plain e2, d1, p.dat r (.bl _) ?_⟩
      cases neg <;> simpa using hs
    · split at eb
      · rename_i xs ys _
        obtain ⟨a, vs, rfl, g1, l1⟩ := hx.lst r.sub
        obtain ⟨c, us, rfl, g2, l2⟩ := hy.lst r.sub
        exact .inr ⟨F, a, c, vs, us, xs, ys, b, r.sub, rfl, rfl, g1, g2, l1, l2, eb, p.dat r (.bl _) hs⟩
      · cases eb
  · exact hs.elim
theorem bin_eqX (hu : ∀ i, (Φ.X i).A.units + 64 < cLine) : BinD Φ (compareOp .Eq) (sEqX false) := bin_X (fun i => op_eqP (hu i)) fun i => op_eqX (hu i)
theorem bin_neX (hu : ∀ i, (Φ.X i).A.units + 64 < cLine) : BinD Φ (compareOp .NotEq) (sEqX true) := bin_X (fun i => op_neP (hu i)) fun i => op_neX (hu i)
theorem geqT_ok {x y : D} (h1 : eqOk x = true) (h2 : eqOk y = true) : geqT x y = some (deq x y) := by
  unfold geqT plainEq
  rw [h1, h2]
  rfl
theorem sEqX_ok {neg : Bool} {x y : D} {Q : SD → Prop} (h1 : eqOk x = true) (h2 : eqOk y = true) : sEqX neg x y Q = Q (.d (.bl (neg ^^ deq x y))) := by
  unfold sEqX
  rw [geqT_ok h1 h2]
theorem geqT_nil (xs : List D) : geqT (.lst xs) (.lst []) = some xs.isEmpty := by
  unfold geqT
  cases e : plainEq (.lst xs) (.lst []) with
  | some b =>
    obtain ⟨h1, h2, rfl⟩ := plainEq_some e
    obtain ⟨p, hp, _⟩ := eqOk_some h1
    unfold toP at hp
    split at hp
    · rename_i ps hps
      simp only
      rw [deq_of (x := .lst xs) (y := .lst []) (p := .list ps) (q := .list []) (by unfold toP; rw [hps]) rfl]
      cases xs with
      | nil => cases hps; rfl
      | cons x r =>
        simp only [toPs] at hps
        split at hps
        · cases hps; rfl
        · cases hps
    · cases hp
  | none =>
    cases xs with
    | nil => rfl
    | cons x r => rfl
theorem sEqX_nil {neg : Bool} {xs : List D} {Q : SD → Prop} : sEqX neg (.lst xs) (.lst []) Q = Q (.d (.bl (neg ^^ xs.isEmpty))) := by
  unfold sEqX
  rw [geqT_nil]
end
section
variable {Φ : Fam} {W : WX} {a b : Expr} {pos : Pos}
def rEqD (K : PySem.W.Frag) : R2 := fun v u H Q => ∃ F a c vs us xs ys b, Same F H ∧ v = .ref a ∧ u = .ref c ∧ H a = some (.dK vs) ∧ H c = some (.dK us) ∧ RepK K F vs xs ∧ RepK K F us ys ∧ (if xs.length = ys.length then dicO (geqN 10) ys xs else some false) = some b ∧ Q (.bl b) H
theorem op_eqD {X : Cx} (hu : X.A.units + 64 < cLine) : OpR X (compareOp .Eq) (rEqD X.K) := by
  intro pins s σ H x y v u Q I rx ry h
  obtain ⟨F, a, c, vs, us, xs, ys, b, sub, rfl, rfl, h1, h2, l1, l2, h, q⟩ := h
  cases (show v = Value.ref a from rx)
  cases (show u = Value.ref c from ry)
  exact dicts_run I sub (n := 10) (by omega) h1 h2 l1 l2 h _ _ ⟨.bl _, H, I, rfl, q⟩
def sEqD : S2 := fun x y Q => match x, y with
  | .dic x, .dic y => ∃ b, (if x.length = y.length then dicO (geqN 10) y x else some false) = some b ∧ Q (.d (.bl b))
  | _, _ => False
theorem bin_eqD (hu : ∀ i, (Φ.X i).A.units + 64 < cLine) : BinD Φ (compareOp .Eq) sEqD := by
  refine ⟨rEqD Φ.K, fun i => by have h := op_eqD (hu i); rw [Φ.hK i] at h; exact h, fun B F H σ δ x y v u Q Qh r hx hy hs p => ?_⟩
  unfold sEqD at hs
  split at hs
  · obtain ⟨b, hb, q⟩ := hs
    obtain ⟨a, vs, rfl, g1, l1⟩ := hx.dic r.sub
    obtain ⟨c, us, rfl, g2, l2⟩ := hy.dic r.sub
    exact ⟨F, a, c, vs, us, _, _, b, r.sub, rfl, rfl, g1, g2, l1, l2, hb, p.dat r (.bl _) q⟩
  · exact hs.elim
end
end DL
namespace PySem.W
open PySem PySem.Calls PyProof.Rows
section
variable {prog : Program} {w : World} {A : Around} {E : Value → Shared → Prop} {s : Shared} {K : Frag} {x C L f : Addr} {h₀ : Heap} {m : Str → Option Value} {ox : Obj} {od : Option Obj} {b tb : Value}
theorem dl_objNe (X : K.In s.heap) (I : InstAt s.heap x ox C od) (heq : findIn K (.ref C) "__eq__" = some (some (.ref f))) (hf : isFn K (.ref f) = true) (hu : A.units < cLine) {Q : Fin → Shared → Prop}
    (h : wpAny (model prog w) A (call (.ref f) [.ref x, b]) (fun v s' => ∃ r, v = .bool r ∧ Q (.done (.ret (.bool (!r)))) s') E s) : wpAny (model prog w) A (Builtin.«object.__ne__» ⟨[.ref x, b], []⟩) Q E s := by
  unfold Builtin.«object.__ne__»
  repeat (first
    | with_reducible refine wpAny_cRoomFor hu ?_
    | (refine wpAny_bind (m := callSpecialIfBound? (.ref x) (Str.ofString "__eq__") [b])
        (ifBound_K X I heq hf (wpAny_mono h (fun r s' hr => by
          obtain ⟨b, rfl, hq⟩ := hr
          repeat (first | exact hq | exact wpAny_pure hq | exact wpAny_truthy_bool hq | (refine wpAny_bind (m := truthy (.bool _)) (wpAny_truthy_bool ?_)) | wp_step)) fun _ _ e => e)))
    | wp_step)
theorem dl_checkNe {Q : Unit → Shared → Prop} (X : K.In s.heap) (I : InstAt s.heap x ox C od) (hob : subIn K (.ref C) (.type "object") = some true) (hq : Q () s) :
    wpAny (model prog w) A (checkBuiltinCall "object.__ne__" ⟨[.ref x, b], []⟩) Q E s := by
  have ha : argsOk "object.__ne__" ⟨[.ref x, b], []⟩ := F.cmpArgs_ne _ _
  simp only [checkBuiltinCall, F.cmpKind_ne, F.cmpSplit_ne]
  refine wpAny_bind ?_
  unfold isInstance
  refine wpAny_bind (m := typeOf (.ref x)) (I.type.here ?_)
  refine wpAny_mono ((looks_subIn X hob).here (Q := fun a s' => a = true ∧ s' = s) ⟨rfl, rfl⟩) (fun a s' hz => ?_) fun _ _ e => e
  · obtain ⟨rfl, rfl⟩ := hz
    cases hsig : Manifest.signature? "object.__ne__" with
    | none => exact wpAny_pure hq
    | some sig =>
      simp only [argsOk, hsig] at ha
      have h2 : Bind.checkArgs "object.__ne__" sig ⟨[.ref x, b], []⟩ = pure () := ha
      show wpAny _ _ (Bind.checkArgs "object.__ne__" sig ⟨[.ref x, b], []⟩) _ _ _
      rw [h2]
      exact wpAny_pure hq
theorem dl_neCall (X : K.In s.heap) (I : InstAt s.heap x ox C od) (hne : findIn K (.ref C) "__ne__" = some (some (.builtin "object.__ne__"))) (hob : subIn K (.ref C) (.type "object") = some true)
    (heq : findIn K (.ref C) "__eq__" = some (some (.ref f))) (hf : isFn K (.ref f) = true) (hu : A.units + 1 < cLine) {Q : Option Value → Shared → Prop}
    (h : wpAny (model prog w) A.in1 (call (.ref f) [.ref x, b]) (fun v s' => ∃ r, v = .bool r ∧ Q (some (.bool (!r))) s') E s) : wpAny (model prog w) A (callSpecialIfBound? (.ref x) "__ne__" [b]) Q E s := by
  simp only [callSpecialIfBound?, bindSpecialIfBound?]
  refine wpAny_holding (wpAny_bind (wpAny_bind (wpAny_bind (I.type.here ((looks_findIn X hne).here ?_)))))
  have SB : ∀ self, bindSpecial (.builtin "object.__ne__") self = pure (.builtin "object.__ne__", [self]) := F.cmp_object.ne.bind
  simp only [SB]
  refine wpAny_bind (wpAny_askSetting (wpAny_ite ?_))
  have hcall : wpAny (model prog w) A (call (.builtin "object.__ne__") (.ref x :: [b])) (fun v => Q (some v)) E s := by
    refine wpAny_call (codeAny_call_builtin F.cmp_object.ne.plain F.cmpEntry_ne (dl_checkNe X I hob (dl_objNe (A := A.in1) X I heq hf hu (wpAny_mono h (fun v s' hv => ?_) fun _ _ e => e))))
    obtain ⟨r, rfl, hq⟩ := hv
    exact ⟨r, rfl, hq⟩
  have fin : wpAny (model prog w) A (call (.builtin "object.__ne__") ([.ref x] ++ [b]) >>= fun v => pure (some v)) Q E s := wpAny_bind (wpAny_mono hcall (fun v s' h' => wpAny_pure h') fun _ _ h' => h')
  split
  · exact wpAny_bind (wpAny_pure (wpAny_pure fin))
  · exact wpAny_tryCatch (wpAny_bind (wpAny_pure (wpAny_pure fin)))
theorem dl_ne_K {Q : Value → Shared → Prop} (hu : A.units + 1 < cLine) (X : K.In s.heap) (I : InstAt s.heap x ox C od) (hb : Looks (model prog w) s.heap (typeOf b) (.ref C)) (hne : findIn K (.ref C) "__ne__" = some (some (.builtin "object.__ne__"))) (hob : subIn K (.ref C) (.type "object") = some true)
    (heq : findIn K (.ref C) "__eq__" = some (some (.ref f))) (hf : isFn K (.ref f) = true) (h : wpAny (model prog w) A.in1 (call (.ref f) [.ref x, b]) (fun v s' => ∃ r, v = .bool r ∧ Q (.bool (!r)) s') E s) : wpAny (model prog w) A (richCompare .NotEq (.ref x) b) Q E s := by
  have one : wpAny (model prog w) A (tryCompare (.ref x) "__ne__" b) (fun r s' => ∃ v, r = some v ∧ Q v s') E s := by
    unfold tryCompare
    refine wpAny_bind (dl_neCall X I hne hob heq hf hu (wpAny_mono h (fun v s' hv => ?_) fun _ _ e => e))
    obtain ⟨r, rfl, hq⟩ := hv
    exact ⟨r, rfl, wpAny_pure ⟨_, rfl, hq⟩⟩
  unfold richCompare
  simp only [oneThing_ref]
  refine wpAny_holding (wpAny_bind (wpAny_cRoomFor (by omega) ?_))
  refine wpAny_bind (I.type.here (wpAny_bind (hb.here ?_)))
  rw [show (Value.ref C != Value.ref C) = false from by simp]
  simp only [Bool.false_eq_true, if_false]
  refine wpAny_bind (wpAny_pure ?_)
  simp only [Bool.false_eq_true, if_false]
  refine wpAny_bind (wpAny_mono one (fun r s' z => ?_) fun _ _ e => e)
  obtain ⟨v, rfl, hq⟩ := z
  exact wpAny_pure hq
end
end PySem.W
namespace DL
open PySem L2
structure EqC (K : PySem.W.Frag) (C : Addr) : Prop where
  ne : PySem.W.findIn K (.ref C) "__ne__" = some (some (.builtin "object.__ne__"))
  ob : PySem.W.subIn K (.ref C) (.type "object") = some true
section
variable {X : Cx} {n : Nat} {C f : Addr} {fd : FuncData} {ps : List Str} {sp : Sp}
abbrev EF : XK := fun _ _ _ => False
theorem passF : Passes (L2.CX X.prog X.w) X EF := fun pins σ H s e s' I h => by
  obtain ⟨a, B, H', cls, d, _, _, _, _, _, _, _, z⟩ := h
  exact z.elim
def rEqO (C : Addr) (sp : Sp) (neg : Bool) : R2 := fun v u H Q => (∃ a c dx dy fs gs, v = .ref a ∧ u = .ref c ∧ H a = some (.ins C dx fs) ∧ H c = some (.ins C dy gs)) ∧ sp [v, u] H (fun w H' => ∃ b, w = .bl b ∧ Q (.bl (neg ^^ b)) H') EF
theorem callEq (F : FnOk X.prog X.w X.K X.mg X.base (L2.CX X.prog X.w) n f fd ps sp) (hb : Binds X.K fd ps []) {A : Around} (hr : Room n A) (hA : A.frames = X.A.frames) {pins : List (Addr × Obj)} {σ : St} {H : Hp} {s : Shared} {Q : VK} {a c : Addr} (I : Inv X pins σ H s)
    (h : sp [.ref a, .ref c] H Q EF) : wpAny (model X.prog X.w) A (call (.ref f) [.ref a, .ref c]) (fun v s' => EP X pins σ Q v s') X.xe s := by
  have e0 : Env0 X.prog X.w X.K X.mg X.base A X.stack s H := by
    have e := I.env0
    exact ⟨by rw [hA]; exact e.frames, e.mod, e.bs, e.bsz, e.funs, e.frf, e.hok, e.bare⟩
  have hl := F.len _ _ _ _ h
  have r2 : Vals [V.ref a, V.ref c] [Value.ref a, Value.ref c] := .cons rfl (.cons rfl .nil)
  refine wpAny_call (codeAny_mono (F.run A X.stack s H ⟨[.ref a, .ref c], []⟩ [.ref a, .ref c] [.ref a, .ref c] _ EF hr e0 (by
    have := hb s [.ref a, .ref c] I.kIn (by simpa using hl)
    simpa using this) r2 h) fun r s' hq => ?_)
  cases r with
  | error e => exact passF pins σ H s e s' I hq
  | ok fl =>
    cases fl with
    | ret w => exact I.after hq
    | next => exact False.elim hq
    | brk => exact False.elim hq
    | cont => exact False.elim hq
theorem op_neO (F : FnOk X.prog X.w X.K X.mg X.base (L2.CX X.prog X.w) n f fd ps sp) (M : Meth X.K C "__eq__" f) (hb : Binds X.K fd ps []) (hr : Room (n + 1) X.A) (hE : EqC X.K C) : OpR X (compareOp .NotEq) (rEqO C sp true) := by
  intro pins s σ H x y v u Q I rx ry h
  obtain ⟨⟨a, c, dx, dy, fs, gs, rfl, rfl, ha, hc⟩, h⟩ := h
  cases (show v = Value.ref a from rx)
  cases (show u = Value.ref c from ry)
  obtain ⟨mA, J, _⟩ := ins_get I.hok ha
  obtain ⟨mB, J', _⟩ := ins_get I.hok hc
  obtain ⟨od, J, _⟩ := J.look
  obtain ⟨od', J', _⟩ := J'.look
  have hun := hr.un
  refine PySem.W.dl_ne_K (by omega) I.kIn J J'.type hE.ne hE.ob M.at_ M.fn (wpAny_mono (callEq F hb hr.in1 rfl I h) (fun r s' hq => ?_) fun _ _ e => e)
  obtain ⟨z, H', I', rz, b, rfl, q⟩ := hq
  cases rz
  exact ⟨b, rfl, .bl _, H', I', rfl, by simpa using q⟩
end
def wEqO (ds : DSp) (C : Addr) (neg : Bool) (wa wb : WF) : WE := fun δ Q E => wa δ (fun x δ1 => wb δ1 (fun y δ2 => match x, y with
  | .obj C1 fs, .obj C2 gs => C1 = C ∧ C2 = C ∧ ds (argsD [.obj C1 fs, .obj C2 gs]) (fun sd _ => ∃ b, sd = .d (.bl b) ∧ Q (.d (.bl (neg ^^ b))) δ2) (fun _ _ _ _ => False)
  | _, _ => False) E) E
section
variable {Φ : Fam} {W : WX} {k j : Nat} {a b : Expr} {pos : Pos} {C : Addr} {ps : List Str} {ds : DSp}
theorem eqO_run {neg : Bool} {wa wb : WF} {ta tb : TE} (a2 : ∀ (B : Bs) (F H : Hp) (σ : St) (δ : Dl) (Q : D → Dl → Prop) (E : XQ) (Qh : VK), RB Φ.K B F H σ δ → wa δ Q E → PostF Φ.K B σ δ F H Q Qh → XL Φ.K B W σ E → ta σ H Qh)
    (b2 : ∀ (B : Bs) (F H : Hp) (σ : St) (δ : Dl) (Q : D → Dl → Prop) (E : XQ) (Qh : VK), RB Φ.K B F H σ δ → wb δ Q E → PostF Φ.K B σ δ F H Q Qh → XL Φ.K B W σ E → tb σ H Qh) :
    ∀ (B : Bs) (F H : Hp) (σ : St) (δ : Dl) (Q : SD → Dl → Prop) (E : XQ) (Qh : VK), RB Φ.K B F H σ δ → wEqO ds C neg wa wb δ Q E → Post Φ.K B σ δ F H Q Qh → XL Φ.K B W σ E → tOp (rEqO C (toSp Φ.K ds) neg) ta tb σ H Qh := by
  intro B F H σ δ Q E Qh rb hw p xl
  refine a2 B F H σ δ _ E _ rb hw (fun v F1 H1 x δ1 r1 s1 rx q1 => ?_) xl
  refine b2 B F1 H1 σ δ1 _ E _ r1 q1 (fun u F2 H2 y δ2 r2 s2 ry q2 => ?_) xl
  split at q2
  · rename_i C1 fs C2 gs
    obtain ⟨rfl, rfl, q⟩ := q2
    have rx2 := rx.mono s2.f
    obtain ⟨a, dx, vs, rfl, ha, _⟩ := objRep rx2
    obtain ⟨c, dy, us, rfl, hc, _⟩ := objRep ry
    refine ⟨⟨a, c, dx, dy, vs, us, rfl, rfl, r2.sub _ _ ha, r2.sub _ _ hc⟩, F2, [], argsD [.obj _ fs, .obj _ gs], _, _, r2.args (.cons rx2 (.cons ry .nil)), q, fun v F3 H3 sd α' r3 sr q3 => ?_, fun F3 H3 α' C dd f v y r3 hd hz rp q3 => q3⟩
    obtain ⟨b, rfl, q⟩ := q3
    obtain ⟨r4, s4⟩ := r2.back r3
    cases sr
    exact ⟨b, rfl, p _ F3 H3 (.d _) δ2 r4 ((s1.trans s2).trans s4) (.bl _) q⟩
  · exact q2.elim
theorem dt_neO (Cx : Cz Φ W k) (M : ∀ i, IsMeth (Φ.X i).prog (Φ.X i).w (Φ.X i).K (Φ.X i).mg (Φ.X i).base C "__eq__" j ps 0 ds) (hE : EqC Φ.K C) {wa wb : WF} (ha : DF Φ W a wa) (hb : DF Φ W b wb) (hj : j + 1 ≤ k := by decide) (hm : behindInMarks .NotEq b = false := by first | rfl | with_unfolding_all rfl) :
    DT Φ W (.Compare a [.NotEq] [b] pos) (wB (wEqO ds C true wa wb)) := by
  obtain ⟨ta, a1, a2⟩ := ha
  obtain ⟨tb, b1, b2⟩ := hb
  have hh : ∀ i, OpR (Φ.X i) (compareOp .NotEq) (rEqO C (toSp Φ.K ds) true) := fun i => by
    obtain ⟨g, fd, g1, g2, g3, g4⟩ := M i
    have h := op_neO g4 g2 g3 (Cx.rm hj i) (by rw [Φ.hK i]; exact hE)
    rw [Φ.hK i] at h
    exact h
  exact ⟨_, fun i => pt_cmpR (hh i) (a1 i) (b1 i) hm, fun B F H σ δ Q E Qh r hw p x => eqO_run a2 b2 B F H σ δ _ E _ r hw (fun v F' H' sd δ' r' s' sr q => let ⟨k, e1, e2⟩ := asB_ok sr q; ⟨k, e1, p k F' H' δ' r' s' e2⟩) x⟩
end
end DL
namespace DL
open PySem L2
@[irreducible] def kont (u : WS) (M : WEnds) (E : XQ) (δ : Dl) : Prop := u M E δ
theorem wSeq_k (w u : WS) (M : WEnds) (E : XQ) (δ : Dl) : wSeq w u M E δ = w { nx := kont u M E, rt := M.rt, bk := M.bk, ct := M.ct } E δ := by unfold kont; rfl
theorem kont_intro {u : WS} {M : WEnds} {E : XQ} {δ : Dl} (h : u M E δ) : kont u M E δ := by unfold kont; exact h
theorem flt_all {α : Type} (p : α → Bool) (xs : List α) : (xs.filter (fun x => !p x)).isEmpty = xs.all p := by
  induction xs with
  | nil => rfl
  | cons x xs ih =>
    rw [List.all_cons, List.filter_cons]
    cases h : p x with
    | true => rw [Bool.true_and, ← ih]; simp
    | false => simp
variable {neg : Bool} {Q : SD → Prop}
theorem Knd.eqX {α : Type} [DecidableEq α] {f : α → D} {g : α → PyData} (k : Knd f g) (hd : ∀ a, (g a).depth ≤ 40) (a b : α) : sEqX neg (f a) (f b) Q = Q (.d (.bl (neg ^^ decide (a = b)))) := by
  have ok : ∀ a, eqOk (f a) = true := fun a => by unfold eqOk; rw [k.to]; exact decide_eq_true (hd a)
  rw [sEqX_ok (ok a) (ok b), k.eq]
theorem sEqX_str {a b : Str} : sEqX neg (.str a) (.str b) Q = Q (.d (.bl (neg ^^ decide (a = b)))) := Knd.str.eqX (fun a => by rw [depth_str]; exact Nat.zero_le _) a b
theorem sEqX_int {a b : Int} : sEqX neg (.int a) (.int b) Q = Q (.d (.bl (neg ^^ decide (a = b)))) := Knd.int.eqX (fun a => by rw [depth_int]; exact Nat.zero_le _) a b
theorem sEqX_bl {a b : Bool} : sEqX neg (.bl a) (.bl b) Q = Q (.d (.bl (neg ^^ decide (a = b)))) := Knd.bl.eqX (fun a => by simp only [PyData.depth]; exact Nat.zero_le _) a b
theorem sEqX_non : sEqX neg .non .non Q = Q (.d (.bl (neg ^^ true))) := by rw [sEqX_ok eqOk_non eqOk_non]; rfl
theorem dep_map {α : Type} {g : α → PyData} {n : Nat} (h : ∀ a, (g a).depth ≤ n) (xs : List α) : PyData.depthAll (xs.map g) ≤ n := depthAll_le fun p hp => by
  obtain ⟨a, _, rfl⟩ := List.mem_map.mp hp
  exact h a
theorem dep_lst {α : Type} {g : α → PyData} {n : Nat} (h : ∀ a, (g a).depth ≤ n) (xs : List α) : (PyData.list (xs.map g)).depth ≤ n + 1 := by
  have := dep_map h xs
  simp only [PyData.depth]
  omega
theorem dep_tup {α : Type} {g : α → PyData} {n : Nat} (h : ∀ a, (g a).depth ≤ n) (xs : List α) : (PyData.tuple (xs.map g)).depth ≤ n + 1 := by
  have := dep_map h xs
  simp only [PyData.depth]
  omega
theorem sEqX_sL {a b : List Str} : sEqX neg (.lst (a.map .str)) (.lst (b.map .str)) Q = Q (.d (.bl (neg ^^ decide (a = b)))) := (Knd.lst Knd.str).eqX (fun a => Nat.le_trans (dep_lst (n := 0) (fun x => by rw [depth_str]; exact Nat.zero_le _) a) (by decide)) a b
theorem sEqX_iL {a b : List Int} : sEqX neg (.lst (a.map .int)) (.lst (b.map .int)) Q = Q (.d (.bl (neg ^^ decide (a = b)))) := (Knd.lst Knd.int).eqX (fun a => Nat.le_trans (dep_lst (n := 0) (fun x => by rw [depth_int]; exact Nat.zero_le _) a) (by decide)) a b
theorem sEqX_sT {a b : List Str} : sEqX neg (.tup (a.map .str)) (.tup (b.map .str)) Q = Q (.d (.bl (neg ^^ decide (a = b)))) := (Knd.tup Knd.str).eqX (fun a => Nat.le_trans (dep_tup (n := 0) (fun x => by rw [depth_str]; exact Nat.zero_le _) a) (by decide)) a b
end DL
namespace Hd
open PySem PySem.Spec L2 DL He
open PyProof.Rows (envOfC)
section
variable {P : Program} {w : World} {K : PySem.W.Frag} {mg : Str → Option Value} {base : Heap}
theorem okFD {x qual : Str} {params : Arguments} {body : List Stmt} {scope : Scope} {dvs : List V} {kws : List (Str × V)} {f : Addr} {fd : FuncData} {N ps : List Str} {k : Nat} {ds : DSp} {ws : WS} (F : FunD K x qual params body scope dvs kws f fd) (S : FnScope N ps scope) (len : ∀ α Q E, ds α Q E → α.length = ps.length ∧ ∀ (i : Nat) (c : Cn), α[i]? ≠ some (some (.o c)))
    (hb : ∀ (cdv : Value) (A : Around) (outer : List Env) (s : Shared) (H : Hp) (E : XK), Room k (A.deeper (envOfC qual scope s.heap.objs.size f cdv)) →
      DSs (Fam.one (cxOf (L2.CX P w) P w K mg base N qual scope f cdv A outer s H E)) (fun cls d _ H' => E cls d H') body ws)
    (hw : ∀ α Q E, ds α Q E → ws { nx := finD α Q (.d .non), rt := finD α Q } (finE α E) (startD N α)) : FnOk P w K mg base (L2.CX P w) (k + 1) f fd ps (toSp K ds) := by
  refine F.ok S (fun vs H Q E h => ?_) (fun cdv A outer s H vs Q E hr h => ?_)
  · obtain ⟨F0, O, α, Qd, Ed, r, hd, _, _⟩ := h
    rw [← (len α Qd Ed hd).1, r.len, List.length_map]
  · obtain ⟨F0, O, α, Qd, Ed, r, hd, q1, q2⟩ := h
    obtain ⟨hl, no⟩ := len α Qd Ed hd
    have hvl : vs.length ≤ N.length := by
      have e := congrArg List.length S.pre
      rw [List.length_take] at e
      have : vs.length = ps.length := by rw [← hl, r.len, List.length_map]
      omega
    obtain ⟨t, h1, h2⟩ := hb cdv A outer s H E hr
    refine ⟨t, h1 (), h2 ⟨F0, H, O, vs.map some⟩ F0 H (L2.start N vs) (startD N α) _ _ _ (r.entry hvl) (hw α Qd Ed hd) ⟨fun F1 H1 σ1 δ1 r1 m => ?_, fun v F1 H1 σ1 δ1 sd r1 sr m => ?_, fun F1 H1 σ1 δ1 r1 m => m.elim, fun F1 H1 σ1 δ1 r1 m => m.elim⟩ fun σ1 F1 H1 δ1 C dd g v y r1 hd1 hz rep m => ?_⟩
    · replace m : finD α Qd (.d .non) δ1 := m
      unfold finD at m
      split at m
      · rename_i α' e
        exact q1 .non F1 H1 (.d .non) α' (r.finish no r1 e) .non m
      · exact m.elim
    · replace m : finD α Qd sd δ1 := m
      unfold finD at m
      split at m
      · rename_i α' e
        exact q1 v F1 H1 sd α' (r.finish no r1 e) (SR.finish no e (r.finish no r1 e) sr) m
      · exact m.elim
    · unfold finE at m
      split at m
      · rename_i α' e
        exact q2 F1 H1 α' C dd g v y (r.finish no r1 e) hd1 hz rep m
      · exact m.elim
abbrev FunS (K : PySem.W.Frag) (x qual : Str) (st : Stmt) (dvs : List V) (f : Addr) (fd : FuncData) : Prop := FunD K x qual (defArgs st) (defBody st) (defScope st) dvs [] f fd
section
variable {x qual : Str} {st : Stmt} {dvs : List V} {f : Addr} {fd : FuncData} {N ps : List Str} {k : Nat} {ds : DSp} {ws : WS}
theorem isFn_D (F : FunS K x qual st dvs f fd) (hm : mg x = some (.ref f)) (hb : Binds K fd ps []) (S : FnScope N ps (defScope st))
    (hd : ∀ (cdv : Value) (A : Around) (outer : List Env) (s : Shared) (H : Hp) (E : XK), Cz (Fam.one (cxOf (L2.CX P w) P w K mg base N qual (defScope st) f cdv A outer s H E)) (fun cls d _ H' => E cls d H') k →
      DSs (Fam.one (cxOf (L2.CX P w) P w K mg base N qual (defScope st) f cdv A outer s H E)) (fun cls d _ H' => E cls d H') (defBody st) ws)
    (len : ∀ α Q E, ds α Q E → α.length = ps.length ∧ ∀ (i : Nat) (c : Cn), α[i]? ≠ some (some (.o c)))
    (hw : ∀ α Q E, ds α Q E → ws { nx := finD α Q (.d .non), rt := finD α Q } (finE α E) (startD N α)) : IsFn P w K mg base x (k + 1) ps ds :=
  ⟨f, fd, hm, F.kp, hb, okFD F S len (fun cdv A outer s H E hr => hd cdv A outer s H E (.one hr S.nd)) hw⟩
theorem isMeth_D {C : Addr} {m : Str} {n : Nat} (F : FunS K x qual st dvs (ma K C m) fd) (c : Cls K C) (hm : Meth K C m (ma K C m)) (hb : Binds K fd ps (List.replicate n Value.none)) (S : FnScope N ps (defScope st))
    (hd : ∀ (cdv : Value) (A : Around) (outer : List Env) (s : Shared) (H : Hp) (E : XK), Cz (Fam.one (cxOf (L2.CX P w) P w K mg base N qual (defScope st) (ma K C m) cdv A outer s H E)) (fun cls d _ H' => E cls d H') k →
      DSs (Fam.one (cxOf (L2.CX P w) P w K mg base N qual (defScope st) (ma K C m) cdv A outer s H E)) (fun cls d _ H' => E cls d H') (defBody st) ws)
    (len : ∀ α Q E, ds α Q E → α.length = ps.length ∧ ∀ (i : Nat) (c : Cn), α[i]? ≠ some (some (.o c)))
    (hw : ∀ α Q E, ds α Q E → ws { nx := finD α Q (.d .non), rt := finD α Q } (finE α E) (startD N α)) : IsMeth P w K mg base C m (k + 1) ps n ds :=
  ⟨_, fd, c, hm, hb, okFD F S len (fun cdv A outer s H E hr => hd cdv A outer s H E (.one hr S.nd)) hw⟩
theorem isMk_D {y : Str} {C : Addr} {n : Nat} (F : FunS K x qual st dvs (ma K C "__init__") fd) (g : mg y = some (.ref C)) (hm : Mk K C (ma K C "__init__")) (hb : Binds K fd ps (List.replicate n Value.none)) (S : FnScope N ps (defScope st))
    (hd : ∀ (cdv : Value) (A : Around) (outer : List Env) (s : Shared) (H : Hp) (E : XK), Cz (Fam.one (cxOf (L2.CX P w) P w K mg base N qual (defScope st) (ma K C "__init__") cdv A outer s H E)) (fun cls d _ H' => E cls d H') k →
      DSs (Fam.one (cxOf (L2.CX P w) P w K mg base N qual (defScope st) (ma K C "__init__") cdv A outer s H E)) (fun cls d _ H' => E cls d H') (defBody st) ws)
    (len : ∀ α Q E, ds α Q E → α.length = ps.length ∧ ∀ (i : Nat) (c : Cn), α[i]? ≠ some (some (.o c)))
    (hw : ∀ α Q E, ds α Q E → ws { nx := finD α Q (.d .non), rt := finD α Q } (finE α E) (startD N α)) : IsMk P w K mg base y C (k + 1) ps n ds :=
  ⟨_, fd, g, hm, hb, okFD F S len (fun cdv A outer s H E hr => hd cdv A outer s H E (.one hr S.nd)) hw⟩
theorem binds_full (F : FunS K x qual st dvs f fd) (hd : dvs ≠ [])
    (h : ∀ (T : Addr) (kV doc pm : Value) (an : Option Addr) (cdv ct : Value) (us its : List Value), us.length = ps.length → its.length = dvs.length →
      ∃ k, bindArgs (PySem.W.fnOf x qual (defArgs st) (defBody st) (defScope st) (.ref T) kV doc pm an cdv ct) ⟨us, []⟩ = seqItems? (.ref T) >>= k ∧ k (some its.toArray) = pure (ps.zip (us ++ its.drop dvs.length))) : Binds K fd ps [] := by
  obtain ⟨ds, h1, h2⟩ := FunD.binds1 F ps.length dvs.length hd (by omega) h
  rw [List.drop_length] at h1
  cases h1
  exact h2
theorem binds_none (F : FunS K x qual st [.non] f fd) (n : Nat) (hn : n + 1 = ps.length)
    (h : ∀ (T : Addr) (kV doc pm : Value) (an : Option Addr) (cdv ct : Value) (us its : List Value), us.length = n → its.length = 1 →
      ∃ k, bindArgs (PySem.W.fnOf x qual (defArgs st) (defBody st) (defScope st) (.ref T) kV doc pm an cdv ct) ⟨us, []⟩ = seqItems? (.ref T) >>= k ∧ k (some its.toArray) = pure (ps.zip (us ++ its.drop 0))) : Binds K fd ps (List.replicate 1 Value.none) := by
  obtain ⟨ds, h1, h2⟩ := FunD.binds1 F n 0 (by simp) (by simpa using hn) h
  rw [List.drop_zero] at h1
  cases h1 with
  | cons a b =>
    cases b
    cases a
    exact h2
end
theorem clsB_ok {C : Addr} (h : clsB K C = true) : ∃ nm' q N bs bm sn sub ab col dd k0 k1 k2 k3 k5, K.lookup C = some (PySem.excClassObj nm' q C N bs bm true sn sub ab col dd k0 k1 k2 k3 k5 "ValueError.__new__") ∧ PySem.HandSPX.refsVE bm = true := by
  unfold clsB at h
  split at h
  · rename_i t dd cd sl e
    obtain ⟨h1, h2⟩ := ba h
    split at h2
    · rename_i C' bm k0 k1 k2 k3 n k5 e1 e2
      obtain ⟨a1, h2⟩ := ba h2
      obtain ⟨a2, h2⟩ := ba h2
      obtain ⟨a3, h2⟩ := ba h2
      obtain ⟨a4, a5⟩ := ba h2
      obtain rfl := of_decide_eq_true h1
      obtain rfl := of_decide_eq_true a1
      obtain rfl := of_decide_eq_true a2
      obtain ⟨n1, n2, n3, n4, n5, n6, n7, n8, n9, n10, n11⟩ := cd
      obtain ⟨l⟩ := sl
      replace e2 : l = _ := e2
      subst e2
      simp only [Bool.not_eq_true'] at a3 a4 e1
      subst e1 a3 a4
      exact ⟨n1, n5, n4, n2, bm, n7, n8, n9, n10, dd, k0, k1, k2, k3, k5, e, a5⟩
    · cases h2
  · cases h
structure ErrT (P : Program) (e : ErrD) : Prop where
  ok : EX.FldOk e.f
  tx : ∃ (p1 p2 p3 q1 q2 q3 q4 q5 r1 r2 r3 r4 : Pos), defArgs e.st = EX.eA e.f p1 p2 p3 ∧ defBody e.st = EX.eB e.f q1 q2 q3 q4 q5 r1 r2 r3 r4 ∧ defScope e.st = EX.eS e.f ∧ EX.SupCall e.f q1 q2 q3 q4 q5 ∧ EX.SwapsNot e.f q1 q2 q3 q4 q5 r1 r2 r3 r4 ∧
    ∀ (cc T : Addr) (kV doc pm : Value) (an : Option Addr) (cda : Addr) (ct : Value) (us its : List Value), us.length = 2 → its.length = 1 → ∃ k, bindArgs (PySem.W.fnX "__init__" e.qual (EX.eA e.f p1 p2 p3) (EX.eB e.f q1 q2 q3 q4 q5 r1 r2 r3 r4) (EX.eS e.f) [("__class__", cc)] (.ref T) kV doc pm an (.ref cda) ct) ⟨us, []⟩ = seqItems? (.ref T) >>= k ∧
      k (some its.toArray) = pure ([("self" : Str), e.f].zip us)
  top : (P.main.scope.names.lookup ("super" : Str)).isSome = false
theorem isErr_of {e : ErrD} {h : Heap} (X : K.In h) (G : h.Ns mainGlobals mg) (T : ErrT P e) (v : fnE K e.nm = e.val) (c : errB P K e = true) : IsErr P K mg e.nm e.f (ga K e.nm) := by
  unfold errB at c
  obtain ⟨c1, c⟩ := ba c
  obtain ⟨c2, c⟩ := ba c
  obtain ⟨c3, c⟩ := ba c
  obtain ⟨c4, c⟩ := ba c
  obtain ⟨c5, c⟩ := ba c
  obtain ⟨c6, c⟩ := ba c
  obtain ⟨c7, c⟩ := ba c
  obtain ⟨c8, c⟩ := ba c
  obtain ⟨c9, c⟩ := ba c
  obtain ⟨c10, c⟩ := ba c
  obtain ⟨c11, c⟩ := ba c
  obtain ⟨c12, c⟩ := ba c
  obtain ⟨c13, c⟩ := ba c
  obtain ⟨c14, c⟩ := ba c
  obtain ⟨c15, c⟩ := ba c
  obtain ⟨c16, c⟩ := ba c
  obtain ⟨c17, c⟩ := ba c
  obtain ⟨c18, c⟩ := ba c
  obtain ⟨c19, c⟩ := ba c
  refine ⟨e.qual, ma K (ga K e.nm) "__init__", T.ok, glo_ok X G c1, clsB_ok c2, c3, eqO_ok c4, eqO_ok c5, eqO_ok c6, eqO_ok c7, eqO_ok c8, of_decide_eq_true c9, c10, of_decide_eq_true c11, of_decide_eq_true c12, of_decide_eq_true c13, c14, of_decide_eq_true c15, of_decide_eq_true c16, eqO_ok c17, eqO_ok c18, free_ok X G c19, ?_, T.top⟩
  unfold initB at c
  unfold fnE ErrD.val at v
  split at c
  · rename_i oc od fd osl eq
    rw [eq] at v
    obtain ⟨n1, n2, n3, n4, n5, n6, n7, n8, n9, n10, n11, n12, n13, n14, n15⟩ := fd
    simp only [Option.some.injEq, Prod.mk.injEq] at v
    obtain ⟨h1, h2, h3, h4, h5, h6, h7, h8⟩ := v
    obtain ⟨d1, d⟩ := ba c
    obtain ⟨d2, d3⟩ := ba d
    obtain ⟨dA, d0⟩ := ba d1
    clear d1
    replace dA : PySem.W.codeIn K n13 e.qual = true := dA
    replace d0 : dflB K n8 [.non] = true := d0
    obtain ⟨p1, p2, p3, q1, q2, q3, q4, q5, r1, r2, r3, r4, t1, t2, t3, t4, t5, t6⟩ := T.tx
    split at d2
    · rename_i cda e1
      split at d2
      · rename_i ccl cdd vs ccs e2
        split at d2
        · rename_i file tf e3
          split at d3
          · rename_i y cc e4
            split at d3
            · rename_i cl cld C' csl e5
              obtain rfl := of_decide_eq_true d3
              replace e1 : n13 = .ref cda := e1
              replace e4 : n7 = [(y, cc)] := e4
              subst e1 e4
              rw [t1] at h3
              rw [t2] at h4
              rw [t3] at h5
              simp only [List.map_cons, List.map_nil, List.cons.injEq, and_true] at h7
              subst h1 h2 h3 h4 h5 h6 h7 h8
              rcases dflB_ok d0 with ⟨z, _⟩ | ⟨_, T0, ot, its, m0, rfl, lT, oT, rT⟩
              · cases z
              exact ⟨oc, od, n10, n11, _, n9, n12, cda, cc, n14, osl, p1, p2, p3, q1, q2, q3, q4, q5, r1, r2, r3, r4, eq, dA, ⟨ccl, cdd, vs, ccs, e2, file, tf, e3, d2⟩, ⟨cl, cld, csl, e5⟩, t4, t5, fun s us X' hl => by
                rw [List.append_nil] at hl ⊢
                obtain ⟨k, b1, b2⟩ := t6 cc T0 n9 n10 n11 n12 cda n14 us its hl rT.length.symm
                refine BindsTo.of_looks fun M => ?_
                rw [b1]
                exact looks_items X' lT oT (.of_pure b2)⟩
            · cases d3
          · cases d3
        · cases d2
      · cases d2
    · cases d2
  · cases c
end
section
variable {P : Program} {fa : List Fa} {fn : List DefD} {er : List ErrD} {ex : PySem.W.Frag → Bool} {K : PySem.W.Frag}
theorem SaysH.d (c : SaysH P fa fn er ex K) : SaysD fa fn K := congrArg (fun z : AlH => z.1) c
theorem SaysH.more (c : SaysH P fa fn er ex K) : ex K = true := (ba (show ((er.all fun e => errB P K e) && ex K) = true from congrArg (fun z : AlH => z.2.2) c)).2
theorem SaysH.err (c : SaysH P fa fn er ex K) (i : Nat) {e : ErrD} (h : er[i]? = some e := by rfl) : fnE K e.nm = e.val ∧ errB P K e = true := by
  have c1 := (ba (show ((er.all fun e => errB P K e) && ex K) = true from congrArg (fun z : AlH => z.2.2) c)).1
  have c2 : er.map (fun e => fnE K e.nm) = er.map ErrD.val := congrArg (fun z : AlH => z.2.1) c
  have e2 : (er.map fun e => fnE K e.nm)[i]? = (er.map ErrD.val)[i]? := by rw [c2]
  rw [List.getElem?_map, List.getElem?_map, h] at e2
  exact ⟨Option.some.inj e2, List.all_eq_true.mp c1 e (List.mem_of_getElem? h)⟩
end
theorem eqcB_ok {K : PySem.W.Frag} {x : Str} (h : eqcB K x = true) : DL.EqC K (ga K x) := ⟨eqO_ok (ba h).1, of_decide_eq_true (ba h).2⟩
theorem isiB_ok {K : PySem.W.Frag} {x : Str} (c : Cls K (ga K x)) (h : isiB K x = true) : DL.IsiC K (ga K x) := by
  obtain ⟨h1, h⟩ := ba h
  obtain ⟨h2, h⟩ := ba h
  obtain ⟨h3, h4⟩ := ba h
  exact ⟨c, eqO_ok h1, eqO_ok h2, of_decide_eq_true h3, of_decide_eq_true h4⟩
end Hd
namespace Hd
open PySem PySem.Spec L2 DL PyProof.Rows
theorem law_says {K : PySem.W.Frag} {H : Hp} {a : Addr} {ns : List Int} {ds : DSp} (hS : SqL K H a (ns.map V.int)) (h : ∀ Q E, Q (.d (.bl true)) [some (.d (.scr ns))] → ds [some (.d (.scr ns))] Q E) : toSp K ds [.ref a] H (fun v _ => v = .bl true) fun _ _ _ => False := by
  refine ⟨H, [], [some (.d (.scr ns))], fun sd _ => sd = .d (.bl true), fun _ _ _ _ => False, ⟨.refl _, rfl, fun i x e => ?_, fun i c e => ?_, fun i c e => ?_, fun i j b hi => ?_, .refl _, fun b o e _ => e, fun b hb => (nomatch hb), fun b o e => .inl ⟨o, e⟩⟩, h _ _ rfl, fun v F' H' sd α' r sr q => ?_, fun _ _ _ _ _ _ _ _ _ _ _ _ m => m⟩
  · match i, e with
    | 0, e =>
      cases e
      exact ⟨_, rfl, .scr _ hS⟩
  · match i, e with
    | 0, e => cases e
  · match i, e with
    | 0, e => cases e
  · exfalso
    revert hi
    unfold isOwn
    match i with
    | 0 => simp
    | i + 1 => simp
  · subst q
    cases sr
    rfl
theorem walk_ofH {l : PySem.W.OpenLaw} {n k : Nat} {q : Program} {loose : List Str} {XP : (Str → Option Value) → Heap → Prop} {YP : World → Heap → Prop} {d : DefRec} {x : Str}
    (hn : l.most = some n) (hn2 : n ≤ sizeLine) (hdf : d.params.defaults = []) (hr : Room k callerA)
    (F : ∀ (w : World) (mg : Str → Option Value) (fa : Addr) (h : Heap), YP w h → h.Ns mainGlobals mg → mg d.name = some (.ref fa) →
      ∃ (K : PySem.W.Frag) (fd : FuncData) (sp : Sp), K.In h ∧ (∀ (s : Shared) (u : Value), BindsTo s fd ⟨[u], []⟩ [(x, u)]) ∧
        (∀ (H : Hp) (a : Addr) (ns : List Int), ns.length ≤ n → Only H → SqL K H a (ns.map V.int) → sp [.ref a] H (fun v _ => v = .bl true) fun _ _ _ => False) ∧
        ∀ base : Heap, K.In base → base.Ns mainGlobals mg → FnOk l.prog w K mg base (L2.CX l.prog w) k fa fd [x] sp) :
    PySem.W.WalkO q loose XP YP l.row.toRowW d [] (fun f vs => PySem.call f vs) := by
  refine Att.attach_call hn hdf fun w s₀ s₁ mg mb fa o pm cd doc a vs ns G Y ho hd hcd hmg hobj hints hlen hg => ?_
  obtain ⟨K, fd, sp, KX, hb, hsp, hF⟩ := F w mg fa _ Y G.T.g hmg
  exact law_call KX G.T.g G.T.b G.T.builtins G.T.nolimit hg hobj hints (Nat.le_trans hlen hn2) hr hF hb (fun H hO hS => hsp H a ns hlen hO hS) fun H e s' ⟨_, _, _, _, _, _, _, _, _, _, _, _, z⟩ => z
end Hd
namespace DL
open PySem
theorem nm_players_crew : ((("players" : Str) == "crew") = false) := by decide +kernel
theorem nm_moments_crew : ((("moments" : Str) == "crew") = false) := by decide +kernel
theorem nm_tops_crew : ((("tops" : Str) == "crew") = false) := by decide +kernel
theorem nm_above_crew : ((("above" : Str) == "crew") = false) := by decide +kernel
theorem nm_check_moment_crew : ((("check_moment" : Str) == "crew") = false) := by decide +kernel
theorem nm_with_look_crew : ((("with_look" : Str) == "crew") = false) := by decide +kernel
theorem nm_all_looks_crew : ((("all_looks" : Str) == "crew") = false) := by decide +kernel
theorem nm_until_crew : ((("until" : Str) == "crew") = false) := by decide +kernel
theorem nm_renamed_crew : ((("renamed" : Str) == "crew") = false) := by decide +kernel
theorem nm_is_pair_crew : ((("is_pair" : Str) == "crew") = false) := by decide +kernel
theorem nm_rows_crew : ((("rows" : Str) == "crew") = false) := by decide +kernel
theorem nm_least_at_crew : ((("least_at" : Str) == "crew") = false) := by decide +kernel
theorem nm_most_at_crew : ((("most_at" : Str) == "crew") = false) := by decide +kernel
theorem nm_seen_crew : ((("seen" : Str) == "crew") = false) := by decide +kernel
theorem nm_folk_crew : ((("folk" : Str) == "crew") = false) := by decide +kernel
theorem nm_shown_crew : ((("shown" : Str) == "crew") = false) := by decide +kernel
theorem nm_notes_crew : ((("notes" : Str) == "crew") = false) := by decide +kernel
theorem nm_count_crew : ((("count" : Str) == "crew") = false) := by decide +kernel
theorem nm_total_crew : ((("total" : Str) == "crew") = false) := by decide +kernel
theorem nm_look_crew : ((("look" : Str) == "crew") = false) := by decide +kernel
theorem nm_undo_crew : ((("undo" : Str) == "crew") = false) := by decide +kernel
theorem nm_copy_crew : ((("copy" : Str) == "crew") = false) := by decide +kernel
theorem nm_sight_crew : ((("sight" : Str) == "crew") = false) := by decide +kernel
theorem nm_players_seen : ((("players" : Str) == "seen") = false) := by decide +kernel
theorem nm_moments_seen : ((("moments" : Str) == "seen") = false) := by decide +kernel
theorem nm_tops_seen : ((("tops" : Str) == "seen") = false) := by decide +kernel
theorem nm_above_seen : ((("above" : Str) == "seen") = false) := by decide +kernel
theorem nm_check_moment_seen : ((("check_moment" : Str) == "seen") = false) := by decide +kernel
theorem nm_with_look_seen : ((("with_look" : Str) == "seen") = false) := by decide +kernel
theorem nm_all_looks_seen : ((("all_looks" : Str) == "seen") = false) := by decide +kernel
theorem nm_until_seen : ((("until" : Str) == "seen") = false) := by decide +kernel
theorem nm_renamed_seen : ((("renamed" : Str) == "seen") = false) := by decide +kernel
theorem nm_is_pair_seen : ((("is_pair" : Str) == "seen") = false) := by decide +kernel
theorem nm_rows_seen : ((("rows" : Str) == "seen") = false) := by decide +kernel
theorem nm_least_at_seen : ((("least_at" : Str) == "seen") = false) := by decide +kernel
theorem nm_most_at_seen : ((("most_at" : Str) == "seen") = false) := by decide +kernel
theorem nm_crew_seen : ((("crew" : Str) == "seen") = false) := by decide +kernel
theorem nm_folk_seen : ((("folk" : Str) == "seen") = false) := by decide +kernel
theorem nm_shown_seen : ((("shown" : Str) == "seen") = false) := by decide +kernel
theorem nm_notes_seen : ((("notes" : Str) == "seen") = false) := by decide +kernel
theorem nm_count_seen : ((("count" : Str) == "seen") = false) := by decide +kernel
theorem nm_total_seen : ((("total" : Str) == "seen") = false) := by decide +kernel
theorem nm_look_seen : ((("look" : Str) == "seen") = false) := by decide +kernel
theorem nm_undo_seen : ((("undo" : Str) == "seen") = false) := by decide +kernel
theorem nm_copy_seen : ((("copy" : Str) == "seen") = false) := by decide +kernel
theorem nm_sight_seen : ((("sight" : Str) == "seen") = false) := by decide +kernel
theorem nm_players_folk : ((("players" : Str) == "folk") = false) := by decide +kernel
theorem nm_moments_folk : ((("moments" : Str) == "folk") = false) := by decide +kernel
theorem nm_tops_folk : ((("tops" : Str) == "folk") = false) := by decide +kernel
theorem nm_above_folk : ((("above" : Str) == "folk") = false) := by decide +kernel
theorem nm_check_moment_folk : ((("check_moment" : Str) == "folk") = false) := by decide +kernel
theorem nm_with_look_folk : ((("with_look" : Str) == "folk") = false) := by decide +kernel
theorem nm_all_looks_folk : ((("all_looks" : Str) == "folk") = false) := by decide +kernel
theorem nm_until_folk : ((("until" : Str) == "folk") = false) := by decide +kernel
theorem nm_renamed_folk : ((("renamed" : Str) == "folk") = false) := by decide +kernel
theorem nm_is_pair_folk : ((("is_pair" : Str) == "folk") = false) := by decide +kernel
theorem nm_rows_folk : ((("rows" : Str) == "folk") = false) := by decide +kernel
theorem nm_least_at_folk : ((("least_at" : Str) == "folk") = false) := by decide +kernel
theorem nm_most_at_folk : ((("most_at" : Str) == "folk") = false) := by decide +kernel
theorem nm_crew_folk : ((("crew" : Str) == "folk") = false) := by decide +kernel
theorem nm_seen_folk : ((("seen" : Str) == "folk") = false) := by decide +kernel
theorem nm_shown_folk : ((("shown" : Str) == "folk") = false) := by decide +kernel
theorem nm_notes_folk : ((("notes" : Str) == "folk") = false) := by decide +kernel
theorem nm_count_folk : ((("count" : Str) == "folk") = false) := by decide +kernel
theorem nm_total_folk : ((("total" : Str) == "folk") = false) := by decide +kernel
theorem nm_look_folk : ((("look" : Str) == "folk") = false) := by decide +kernel
theorem nm_undo_folk : ((("undo" : Str) == "folk") = false) := by decide +kernel
theorem nm_copy_folk : ((("copy" : Str) == "folk") = false) := by decide +kernel
theorem nm_sight_folk : ((("sight" : Str) == "folk") = false) := by decide +kernel
theorem nm_players_shown : ((("players" : Str) == "shown") = false) := by decide +kernel
theorem nm_moments_shown : ((("moments" : Str) == "shown") = false) := by decide +kernel
theorem nm_tops_shown : ((("tops" : Str) == "shown") = false) := by decide +kernel
theorem nm_above_shown : ((("above" : Str) == "shown") = false) := by decide +kernel
theorem nm_check_moment_shown : ((("check_moment" : Str) == "shown") = false) := by decide +kernel
theorem nm_with_look_shown : ((("with_look" : Str) == "shown") = false) := by decide +kernel
theorem nm_all_looks_shown : ((("all_looks" : Str) == "shown") = false) := by decide +kernel
theorem nm_until_shown : ((("until" : Str) == "shown") = false) := by decide +kernel
theorem nm_renamed_shown : ((("renamed" : Str) == "shown") = false) := by decide +kernel
theorem nm_is_pair_shown : ((("is_pair" : Str) == "shown") = false) := by decide +kernel
theorem nm_rows_shown : ((("rows" : Str) == "shown") = false) := by decide +kernel
theorem nm_least_at_shown : ((("least_at" : Str) == "shown") = false) := by decide +kernel
theorem nm_most_at_shown : ((("most_at" : Str) == "shown") = false) := by decide +kernel
theorem nm_crew_shown : ((("crew" : Str) == "shown") = false) := by decide +kernel
theorem nm_seen_shown : ((("seen" : Str) == "shown") = false) := by decide +kernel
theorem nm_folk_shown : ((("folk" : Str) == "shown") = false) := by decide +kernel
theorem nm_notes_shown : ((("notes" : Str) == "shown") = false) := by decide +kernel
theorem nm_count_shown : ((("count" : Str) == "shown") = false) := by decide +kernel
theorem nm_total_shown : ((("total" : Str) == "shown") = false) := by decide +kernel
theorem nm_look_shown : ((("look" : Str) == "shown") = false) := by decide +kernel
theorem nm_undo_shown : ((("undo" : Str) == "shown") = false) := by decide +kernel
theorem nm_copy_shown : ((("copy" : Str) == "shown") = false) := by decide +kernel
theorem nm_sight_shown : ((("sight" : Str) == "shown") = false) := by decide +kernel
theorem nm_players_notes : ((("players" : Str) == "notes") = false) := by decide +kernel
theorem nm_moments_notes : ((("moments" : Str) == "notes") = false) := by decide +kernel
theorem nm_tops_notes : ((("tops" : Str) == "notes") = false) := by decide +kernel
theorem nm_above_notes : ((("above" : Str) == "notes") = false) := by decide +kernel
theorem nm_check_moment_notes : ((("check_moment" : Str) == "notes") = false) := by decide +kernel
theorem nm_with_look_notes : ((("with_look" : Str) == "notes") = false) := by decide +kernel
theorem nm_all_looks_notes : ((("all_looks" : Str) == "notes") = false) := by decide +kernel
theorem nm_until_notes : ((("until" : Str) == "notes") = false) := by decide +kernel
theorem nm_renamed_notes : ((("renamed" : Str) == "notes") = false) := by decide +kernel
theorem nm_is_pair_notes : ((("is_pair" : Str) == "notes") = false) := by decide +kernel
theorem nm_rows_notes : ((("rows" : Str) == "notes") = false) := by decide +kernel
theorem nm_least_at_notes : ((("least_at" : Str) == "notes") = false) := by decide +kernel
theorem nm_most_at_notes : ((("most_at" : Str) == "notes") = false) := by decide +kernel
theorem nm_crew_notes : ((("crew" : Str) == "notes") = false) := by decide +kernel
theorem nm_seen_notes : ((("seen" : Str) == "notes") = false) := by decide +kernel
theorem nm_folk_notes : ((("folk" : Str) == "notes") = false) := by decide +kernel
theorem nm_shown_notes : ((("shown" : Str) == "notes") = false) := by decide +kernel
theorem nm_count_notes : ((("count" : Str) == "notes") = false) := by decide +kernel
theorem nm_total_notes : ((("total" : Str) == "notes") = false) := by decide +kernel
theorem nm_look_notes : ((("look" : Str) == "notes") = false) := by decide +kernel
theorem nm_undo_notes : ((("undo" : Str) == "notes") = false) := by decide +kernel
theorem nm_copy_notes : ((("copy" : Str) == "notes") = false) := by decide +kernel
theorem nm_sight_notes : ((("sight" : Str) == "notes") = false) := by decide +kernel
end DL
namespace DL
open PySem L2
section
variable {Φ : Fam}
end
end DL
namespace Sp
open PySem L2 DL
theorem ints?_map (ns : List Int) : ints? (ns.map D.int) = some ns := by
  induction ns with
  | nil => rfl
  | cons n ns ih => simp [ints?, ih]
end Sp
namespace DL
open PySem L2
section
variable {Φ : Fam} {W : WX} {e e2 : Expr} {pos cpos apos p2 : Pos} {x : Str}
def wPopAt (n : Nat) (w : WF) : WE := fun δ Q E => (∃ xs, ownOf δ n = some (.l xs)) ∧ w δ (fun d δ1 => match ownOf δ1 n, d with
  | some (.l xs), .int i => ∃ (j : Nat) (y : D), i = (j : Int) ∧ j < 2 ^ 62 ∧ xs[j]? = some y ∧ Q (.d y) (keepKind δ1 n (.l (xs.eraseIdx j)))
  | _, _ => False) E
theorem RepL.eraseIdx {K : PySem.W.Frag} {F : Hp} : ∀ {vs : List V} {ds : List D} (j : Nat), RepL K F vs ds → RepL K F (vs.eraseIdx j) (ds.eraseIdx j)
  | _, _, _, .nil => .nil
  | _, _, 0, .cons _ h => h
  | _, _, j + 1, .cons a h => .cons a (RepL.eraseIdx j h)
def wIns (n : Nat) (w : WL) : WE := fun δ Q E => (∃ xs, ownOf δ n = some (.l xs)) ∧ w δ (fun ds δ1 => match ownOf δ1 n, ds with
  | some (.l xs), [.int i, y] => xs.length < sizeLine ∧ 0 ≤ i ∧ i < 2 ^ 63 ∧ Q (.d .non) (keepKind δ1 n (.l (xs.take i.toNat ++ [y] ++ xs.drop i.toNat)))
  | _, _ => False) E
def wRevM (n : Nat) : WE := fun δ Q E => match ownOf δ n with
  | some (.l xs) => Q (.d .non) (keepKind δ n (.l xs.reverse))
  | _ => False
def wClr (n : Nat) : WE := fun δ Q E => match ownOf δ n with
  | some (.l _) => Q (.d .non) (keepKind δ n (.l []))
  | _ => False
end
end DL
namespace DL
open PySem L2
section
variable {K : PySem.W.Frag} {B : Bs} {F H H' : Hp} {σ : St} {δ : Dl}
theorem RB.hmono (r : RB K B F H σ δ) (hh : Same H H') : RB K B F H' σ δ ∧ Stp σ δ δ F H F H' := by
  have oa : ∀ {a c}, OwnA K F H a c → OwnA K F H' a c := fun {a c} ⟨h1, u, h2, h3⟩ => ⟨h1, u, hh _ _ h2, h3⟩
  exact ⟨⟨fun b o e => hh _ _ (r.sub b o e), r.len, r.dat, fun i c e => let ⟨a, h1, h2, h3⟩ := r.own i c e; ⟨a, h1, oa h2, h3⟩, fun i c e => let ⟨a, h1, h2, h3⟩ := r.par i c e; ⟨a, h1, oa h2, h3⟩, r.apt, r.f0,
    fun b o e n => hh _ _ (r.h0 b o e n), fun b hb => let ⟨h1, ⟨o, h2⟩, h3⟩ := r.hO b hb; ⟨h1, ⟨o, hh _ _ h2⟩, h3⟩, r.nw⟩,
    ⟨.refl _, fun b o e _ => hh _ _ e, fun b o e => .inl ⟨o, e⟩, fun _ z => z, fun b o e => ⟨o, hh _ _ e⟩⟩⟩
def plSD : SD → Bool
  | .d .non | .d (.bl _) | .d (.int _) | .d (.str _) => true
  | _ => false
theorem SR.plain {B' : Bs} {H0 F1 H1 F2 H2 : Hp} {τ τ' : St} {α α' : Dl} {v : V} {sd : SD} (h : plSD sd = true) (s : SR K B H0 F1 H1 τ α v sd) : SR K B' H F2 H2 τ' α' v sd := by
  unfold plSD at h
  split at h
  · cases s; exact .non
  · cases s; exact .bl _
  · cases s; exact .int _
  · cases s; exact .str _
  · cases h
end
section
variable {Φ : Fam} {W : WX} {e1 e2 : Expr} {k j : Nat} {x y : Str} {ps : List Str} {ds : DSp} {pos p p2 : Pos}
def wFnL3 (ds : DSp) (n : Nat) (wa wb : WF) : WE := fun δ Q E => wa δ (fun x δ1 => wb δ1 (fun y δ2 => match ownOf δ2 n with
  | some (.l zs) => ds (argsD [x, y, .lst zs]) (fun sd _ => plSD sd = true ∧ Q sd δ2) (fun _ _ _ _ => False)
  | _ => False) E) E
end
end DL
namespace DL
open PySem L2
section
variable {Φ : Fam} {W : WX} {e : Expr} {pos p p2 pos2 : Pos}
def wListRg (w : WF) : WE := fun δ Q E => w δ (fun d δ1 => match d with
  | .int n => n ≤ 16777216 ∧ 0 ≤ n ∧ Q (.o (.l (rangeD 0 n.toNat))) δ1
  | _ => False) E
end
end DL
namespace DL
open PySem L2
section
variable {Φ : Fam} {W : WX} {e : Expr} {lo hi : Option Expr} {pos p2 : Pos}
def wCutS (w : WO) (wl wh : WP) : WE := fun δ Q E => w δ (fun o δ1 => wl δ1 (fun l δ2 => wh δ2 (fun h δ3 => match view δ3 o with
  | some (.str z) => z.length ≤ sizeLine ∧ Q (.d (.str (cutS z l h))) δ3
  | _ => False) E) E) E
end
end DL
namespace DL
open PySem L2
section
variable {X : Cx}
end
section
variable {Φ : Fam}
def sMulS : S2 := fun x y Q => match x, y with
  | .str z, .int n => MulOk z n ∧ Q (.d (.str (Txt.mul z n)))
  | _, _ => False
end
end DL
namespace DL
open PySem L2
section
variable {α : Type}
def valT (kvs : List (List Key × α)) (k : List Key) : Option α := (kvs.find? fun p => decide (p.1 = k)).map (·.2)
def putT (kvs : List (List Key × α)) (k : List Key) (v : α) : List (List Key × α) := if (kvs.any fun p => decide (p.1 = k)) = true then kvs.map (fun p => if p.1 = k then (p.1, v) else p) else kvs ++ [(k, v)]
end
def keysD : List D → Option (List Key)
  | [] => some []
  | d :: ds => match keyD d, keysD ds with
    | some k, some ks => some (k :: ks)
    | _, _ => none
def keyT : D → Option (List Key)
  | .tup ds => keysD ds
  | _ => none
section
variable {K : PySem.W.Frag} {F H : Hp} {v : V}
theorem RepL.keys : ∀ {vs : List V} {ds : List D} {ks : List Key}, RepL K F vs ds → keysD ds = some ks → vs = ks.map kV
  | _, _, _, .nil, e => by cases e; rfl
  | _, _, _, .cons (d := d) (ds := ds) h r, e => by
    unfold keysD at e
    cases e1 : keyD d with
    | none => rw [e1] at e; cases e
    | some k =>
      cases e2 : keysD ds with
      | none => rw [e1, e2] at e; cases e
      | some ks =>
        rw [e1, e2] at e
        cases e
        rw [List.map_cons, h.key e1, RepL.keys r e2]
theorem Rep.keyT {x : D} {ks : List Key} (h : Rep K F v x) (e : keyT x = some ks) : ∃ b, v = .ref b ∧ F b = some (.tup (ks.map kV)) := by
  cases x with
  | tup ds =>
    cases h with
    | tup h1 h2 =>
      have := h2.keys (show keysD ds = some ks from e)
      subst this
      exact ⟨_, rfl, h1⟩
  | _ => cases e
theorem PR.keyT {x : D} {ks : List Key} (s : Same F H) (h : PR K F H v x) (e : keyT x = some ks) : ∃ b, v = .ref b ∧ H b = some (.tup (ks.map kV)) := by
  rcases h with h | ⟨a, c, rfl, q, h⟩
  · obtain ⟨b, rfl, h2⟩ := h.keyT e
    exact ⟨b, rfl, s _ _ h2⟩
  · subst q
    cases c <;> cases e
theorem RepT.val {k : List Key} : ∀ {vs : List (List Key × V)} {ds : List (List Key × D)}, RepT K F vs ds → (valV vs k).isSome = (valT ds k).isSome
  | _, _, .nil => rfl
  | _, _, .cons (k := k') h r => by
    unfold valT valV
    simp only [List.find?]
    by_cases q : k' = k
    · simp only [q, decide_true]
      rfl
    · simp only [q, decide_false]
      exact RepT.val r
theorem RepT.any {k : List Key} : ∀ {vs : List (List Key × V)} {ds : List (List Key × D)}, RepT K F vs ds → (vs.any fun p => decide (p.1 = k)) = (ds.any fun p => decide (p.1 = k))
  | _, _, .nil => rfl
  | _, _, .cons _ r => by rw [List.any_cons, List.any_cons, RepT.any r]
theorem RepT.len : ∀ {vs : List (List Key × V)} {ds : List (List Key × D)}, RepT K F vs ds → vs.length = ds.length
  | _, _, .nil => rfl
  | _, _, .cons _ r => congrArg (· + 1) (RepT.len r)
theorem RepT.app : ∀ {vs us : List (List Key × V)} {ds es : List (List Key × D)}, RepT K F vs ds → RepT K F us es → RepT K F (vs ++ us) (ds ++ es)
  | _, _, _, _, .nil, s => s
  | _, _, _, _, .cons h r, s => .cons h (RepT.app r s)
theorem RepT.repl {k : List Key} {d : D} {v : V} (q : Rep K F v d) : ∀ {vs : List (List Key × V)} {ds : List (List Key × D)}, RepT K F vs ds → RepT K F (vs.map fun p => if p.1 = k then (p.1, v) else p) (ds.map fun p => if p.1 = k then (p.1, d) else p)
  | _, _, .nil => .nil
  | _, _, .cons (k := k') h r => by
    rw [List.map_cons, List.map_cons]
    by_cases z : k' = k
    · simp only [z, if_true]
      exact .cons q (RepT.repl q r)
    · simp only [z, if_false]
      exact .cons h (RepT.repl q r)
theorem RepT.put {k : List Key} {d : D} {v : V} (q : Rep K F v d) {vs : List (List Key × V)} {ds : List (List Key × D)} (r : RepT K F vs ds) : RepT K F (putK vs k v) (putT ds k d) := by
  unfold putK putT
  rw [RepT.any r]
  split
  · exact RepT.repl q r
  · exact r.app (.cons q .nil)
theorem PR.dct {xs : List (List Key × D)} (s : Same F H) (h : PR K F H v (.dct xs)) : ∃ a vs, v = .ref a ∧ H a = some (.dT vs) ∧ RepT K F vs xs := by
  rcases h with h | ⟨a, c, rfl, e, h⟩
  · cases h with
    | dct h1 h2 => exact ⟨_, _, rfl, s _ _ h1, h2⟩
  · cases c with
    | t ys =>
      cases e
      obtain ⟨_, ho, h2, h3⟩ := h
      obtain ⟨vs, rfl, h4⟩ := h3.dT
      exact ⟨a, vs, rfl, h2, h4⟩
    | l ys => cases e
    | k ys => cases e
    | ob C ys => cases e
end
section
variable {Φ : Fam} {W : WX} {o i e val : Expr} {pos pos' : Pos}
def wNewT : WE := fun δ Q _ => Q (.o (.t [])) δ
def wPutT (n : Nat) (wi wv : WF) : WS := fun M E δ => wv δ (fun x δ1 => (∃ c, ownOf δ1 n = some c) ∧ wi δ1 (fun y δ2 => match ownOf δ2 n, keyT y with
  | some (.t kvs), some k => kvs.length < sizeLine ∧ M.nx (keepKind δ2 n (.t (putT kvs k x)))
  | _, _ => False) E) E
def wInT (neg : Bool) (wi wo : WO) : WE := fun δ Q E => wi δ (fun o2 δ1 => wo δ1 (fun o1 δ2 => match view δ2 o1, (view δ2 o2).bind keyT with
  | some (.dct kvs), some k => Q (.d (.bl (neg ^^ (valT kvs k).isSome))) δ2
  | _, _ => False) E) E
end
end DL
namespace DL
open PySem PySem.Spec L2 PyProof.Rows
theorem truthy_none {M : Model} {A : Around} {E : Value → Shared → Prop} {s : Shared} {Q : Bool → Shared → Prop} (h : Q false s) : wpAny M A (truthy .none) Q E s := fun _ _ _ => h
def tBN (t : TE) : TT := fun σ H Q => t σ H fun x H1 => (∃ c, x = .bl c ∧ Q c H1) ∨ (x = .non ∧ Q false H1)
theorem pt_valN {X : Cx} {e : Expr} {t : TE} (h : PE X e t) (he : ∀ whole, isTrue e X.env whole = (do let v ← whole; standAt e.pos; holding [v] (truthy v)) := by intro _; rfl) : PT X e (tBN t) := by
  refine ⟨fun pins s σ H Q I hw => ?_⟩
  refine isTrue_plain (thn (h.run pins s σ H _ I hw) fun v s1 ⟨x, H1, I1, r1, q1⟩ => ?_) (he _)
  rcases q1 with ⟨d, rfl, q⟩ | ⟨rfl, q⟩
  · cases r1
    exact wpAny_truthy_bool ⟨H1, I1, q⟩
  · cases r1
    exact truthy_none ⟨H1, I1, q⟩
def asBN (Q : Bool → Dl → Prop) : SD → Dl → Prop := fun sd δ => match sd with
  | .d (.bl k) => Q k δ
  | .d .non => Q false δ
  | _ => False
def wBN (w : WE) : WT := fun δ Q E => w δ (asBN Q) E
theorem asBN_ok {K : PySem.W.Frag} {B : Bs} {H0 F H : Hp} {σ : L2.St} {δ : Dl} {v : V} {Q : Bool → Dl → Prop} : ∀ {sd : SD}, SR K B H0 F H σ δ v sd → asBN Q sd δ → (∃ k, v = .bl k ∧ Q k δ) ∨ (v = .non ∧ Q false δ)
  | .d (.bl k), r, q => by cases r; exact .inl ⟨k, rfl, q⟩
  | .d .non, r, q => by cases r; exact .inr ⟨rfl, q⟩
theorem dt_valN {Φ : Fam} {W : WX} {e : Expr} {w : WE} (h : DE Φ W e w) (he : ∀ i whole, isTrue e (Φ.X i).env whole = (do let v ← whole; standAt e.pos; holding [v] (truthy v)) := by intro _ _; rfl) : DT Φ W e (wBN w) := by
  obtain ⟨t, h1, h2⟩ := h
  exact ⟨_, fun i => pt_valN (h1 i) (he i), fun B F H σ δ Q E Qh r hw p x => h2 B F H σ δ _ E _ r hw (fun v F' H' sd δ' r' s' sr q => by
    rcases asBN_ok sr q with ⟨k, e1, e2⟩ | ⟨e1, e2⟩
    · exact .inl ⟨k, e1, p k F' H' δ' r' s' e2⟩
    · exact .inr ⟨e1, p false F' H' δ' r' s' e2⟩) x⟩
end DL
namespace DL
open PySem L2
variable {wi : WI} {wg : WG} {wt : WT} {we : WF} {vs : List Nat} {δ : Dl} {Q : SD → Dl → Prop} {E : XQ}
theorem lc_ofI {α β : Type} (I : Dl → Prop) (ys : List α) (f : α → D) (g : α → Option β) (e : β → D) (hi : ∀ Q : List D → Dl → Prop, (∀ δ1, I δ1 → Q (ys.map f) δ1) → wi δ Q E) (hl : ys.length < 16777216)
    (ok : ∀ δ1, I δ1 → okW δ1 vs) (step : ∀ δ1, I δ1 → ∀ y ∈ ys, ∀ (R : D → Dl → Prop) (S : Dl → Prop), (∀ δ2 u, I δ2 → g y = some u → R (e u) δ2) → (∀ δ2, I δ2 → g y = none → S δ2) →
      wg (f y) (wipeD δ1 vs) (fun δ2 => wt δ2 (fun b δ3 => if b = true then we δ3 (fun v δ4 => R v (unblk δ1 δ4 vs)) E00 else S (unblk δ1 δ3 vs)) E00))
    (q : ∀ δ1, I δ1 → Q (.o (.l ((ys.filterMap g).map e))) δ1) : wLc wi wg wt we vs δ Q E := by
  refine hi _ fun δ1 i1 => ⟨fun i xs δ' => xs = ((ys.take i).filterMap g).map e ∧ I δ', ⟨rfl, i1⟩, fun i d xs δ' hd hp => ?_, fun xs δ' hp => ?_⟩
  · obtain ⟨rfl, ii⟩ := hp
    rw [List.getElem?_map] at hd
    cases ey : ys[i]? with
    | none => rw [ey] at hd; cases hd
    | some y =>
      rw [ey] at hd
      cases hd
      obtain ⟨h1, h2⟩ := get_pre ey
      have hm : y ∈ ys := List.mem_of_getElem? ey
      have lt : (((ys.take i).filterMap g).map e).length < sizeLine := by
        rw [sizeLine_eq, List.length_map]
        have h3 := List.length_filterMap_le g (ys.take i)
        rw [List.length_take] at h3
        omega
      refine ⟨ok _ ii, step δ' ii y hm (fun v δ4 => (((ys.take i).filterMap g).map e).length < sizeLine ∧ ((ys.take i).filterMap g).map e ++ [v] = ((ys.take (i + 1)).filterMap g).map e ∧ I δ4)
        (fun δ3 => ((ys.take i).filterMap g).map e = ((ys.take (i + 1)).filterMap g).map e ∧ I δ3) (fun δ2 u i2 hu => ⟨lt, ?_, i2⟩) fun δ2 i2 hn => ⟨?_, i2⟩⟩
      · rw [h2, List.filterMap_append, List.map_append]
        simp [hu]
      · rw [h2, List.filterMap_append, List.map_append]
        simp [hn]
  · obtain ⟨rfl, ii⟩ := hp
    rw [List.length_map, List.take_length]
    exact q δ' ii
theorem lc_filterI {α : Type} (I : Dl → Prop) (ys : List α) (f : α → D) (t : α → Bool) (hi : ∀ Q : List D → Dl → Prop, (∀ δ1, I δ1 → Q (ys.map f) δ1) → wi δ Q E) (hl : ys.length < 16777216)
    (ok : ∀ δ1, I δ1 → okW δ1 vs) (step : ∀ δ1, I δ1 → ∀ y ∈ ys, ∀ (R : D → Dl → Prop) (S : Dl → Prop), (∀ δ2, I δ2 → t y = true → R (f y) δ2) → (∀ δ2, I δ2 → t y = false → S δ2) →
      wg (f y) (wipeD δ1 vs) (fun δ2 => wt δ2 (fun b δ3 => if b = true then we δ3 (fun v δ4 => R v (unblk δ1 δ4 vs)) E00 else S (unblk δ1 δ3 vs)) E00))
    (q : ∀ δ1, I δ1 → Q (.o (.l ((ys.filter t).map f))) δ1) : wLc wi wg wt we vs δ Q E := by
  refine lc_ofI I ys f (fun y => if t y then some y else none) f hi hl ok (fun δ1 i1 y hy R S hR hS => step δ1 i1 y hy R S (fun δ2 i2 h => hR δ2 y i2 (by rw [if_pos h])) fun δ2 i2 h => hS δ2 i2 (by simp [h])) fun δ1 i1 => ?_
  have e : ys.filterMap (fun y => if t y then some y else none) = ys.filter t := by
    clear hl step hi q
    induction ys with
    | nil => rfl
    | cons y ys ih =>
      by_cases h : t y = true <;> simp [h, ih]
  rw [e]
  exact q δ1 i1
end DL
namespace DL
open PySem L2
def lentD (δ : Dl) (n : Nat) (zs : List D) : Dl := (δ.map fun s => match s with
  | some (.d x) => some (.d x)
  | _ => none).set n (some (.d (.lst zs)))
def nlSD : SD → Bool
  | .o (.l []) => true
  | sd => plSD sd
def wLend (n : Nat) (w : WE) : WE := fun δ Q E => match ownOf δ n with
  | some (.l zs) => w (lentD δ n zs) (fun sd _ => nlSD sd = true ∧ Q sd δ) (fun _ _ _ _ => False)
  | _ => False
section
variable {Φ : Fam} {W : WX} {e : Expr}
theorem lentD_get {δ : Dl} {n i : Nat} {zs : List D} {sd : SD} (h : (lentD δ n zs)[i]? = some (some sd)) : (i = n ∧ sd = .d (.lst zs)) ∨ (i ≠ n ∧ ∃ x, sd = .d x ∧ δ[i]? = some (some (.d x))) := by
  unfold lentD at h
  by_cases c : n = i
  · subst c
    left
    by_cases l : n < (δ.map fun s => match s with | some (SD.d x) => some (SD.d x) | _ => none).length
    · rw [List.getElem?_set_self l] at h
      cases h
      exact ⟨rfl, rfl⟩
    · rw [List.getElem?_eq_none (by simpa using l)] at h; cases h
  · right
    rw [List.getElem?_set_ne c, List.getElem?_map] at h
    refine ⟨fun e => c e.symm, ?_⟩
    cases e : δ[i]? with
    | none => rw [e] at h; cases h
    | some s =>
      rw [e] at h
      cases s with
      | none => cases h
      | some s =>
        cases s with
        | d x => cases h; exact ⟨x, rfl, rfl⟩
        | o c => cases h
        | p c => cases h
theorem de_lend {w : WE} (n : Nat) (h : DE Φ W e w) : DE Φ W e (wLend n w) := by
  obtain ⟨t, h1, h2⟩ := h
  refine ⟨t, h1, fun B F H σ δ Q E Qh r hw pp xl => ?_⟩
  unfold wLend at hw
  split at hw
  · rename_i zs hz
    obtain ⟨a, hav, ⟨f1, o0, g2, g3⟩, ow⟩ := ownOf_at r hz
    obtain ⟨vs, rfl, g4⟩ := g3.lst
    have sF : Same F (upd F a (.lst vs)) := fun b o e => by rw [upd_ne (ne_of_none e f1)]; exact e
    have sub : Same (upd F a (.lst vs)) H := fun b o e => by
      by_cases c : b = a
      · subst c
        rw [upd_same] at e
        cases e
        exact g2
      · rw [upd_ne c] at e
        exact r.sub _ _ e
    have no : ∀ (i : Nat) (c : Cn), (lentD δ n zs)[i]? ≠ some (some (SD.o c)) ∧ (lentD δ n zs)[i]? ≠ some (some (SD.p c)) := fun i c => by
      constructor
      · intro h
        rcases lentD_get h with ⟨_, h⟩ | ⟨_, x, h, _⟩ <;> cases h
      · intro h
        rcases lentD_get h with ⟨_, h⟩ | ⟨_, x, h, _⟩ <;> cases h
    have rA : RB Φ.K ⟨upd F a (.lst vs), H, [], σ⟩ (upd F a (.lst vs)) H σ (lentD δ n zs) :=
      ⟨sub, by unfold lentD; rw [List.length_set, List.length_map]; exact r.len, fun i x e => by
        rcases lentD_get e with ⟨rfl, h⟩ | ⟨_, y, h, e2⟩
        · cases h
          exact ⟨.ref a, hav, .lst upd_same (g4.mono sF)⟩
        · cases h
          obtain ⟨v, k1, k2⟩ := r.dat i x e2
          exact ⟨v, k1, k2.mono sF⟩, fun i c e => absurd e (no i c).1, fun i c e => absurd e (no i c).2, fun i j a h1 h2 => by
        obtain ⟨c, h | h⟩ := h1
        · exact absurd h (no i c).1
        · exact absurd h (no i c).2, .refl _, fun b o e _ => e, fun b hb => (nomatch hb), fun b o e => .inl ⟨o, e⟩⟩
    refine h2 ⟨upd F a (.lst vs), H, [], σ⟩ _ H σ _ _ _ Qh rA hw (fun v F3 H3 sd δ3 r3 s3 sr q => ?_) (fun F' H' δ' C dd f v x _ _ _ _ h => h.elim)
    obtain ⟨r4, s4⟩ := r.hmono (H' := H3) fun b o e => r3.h0 b o e (fun z => nomatch z)
    obtain ⟨q1, q2⟩ := q
    refine pp v F H3 sd δ r4 s4 ?_ q2
    cases sd with
    | d x => exact sr.plain q1
    | p c => cases q1
    | o c =>
      cases c with
      | l xs =>
        cases xs with
        | nil =>
          obtain ⟨b, rfl, ⟨k1, ho, k2, k3⟩, k4, k5, k6⟩ := sr
          obtain ⟨us, rfl, k7⟩ := k3.lst
          cases k7
          have k6 : H b = none := k6
          exact ⟨b, rfl, ⟨r.fnone k6, _, k2, .nil⟩, r.now k6, r.hnone k6, k6⟩
        | cons y ys => cases q1
      | k xs => cases q1
      | t xs => cases q1
      | ob C fs => cases q1
  · exact hw.elim
end
end DL
namespace DL
open PySem L2
section
variable {K : PySem.W.Frag} {B : Bs} {F H : Hp} {σ : St} {δ : Dl}
theorem setNone_get {δ : Dl} {n i : Nat} {sd : SD} (h : (δ.set n none)[i]? = some (some sd)) : i ≠ n ∧ δ[i]? = some (some sd) := by
  by_cases c : n = i
  · subst c
    by_cases l : n < δ.length
    · rw [List.getElem?_set_self l] at h; cases h
    · rw [List.getElem?_eq_none (by rw [List.length_set]; omega)] at h; cases h
  · rw [List.getElem?_set_ne c] at h
    exact ⟨fun e => c e.symm, h⟩
theorem RB.forget (r : RB K B F H σ δ) (n : Nat) : RB K B F H σ (δ.set n none) := by
  have io : ∀ {i}, isOwn (δ.set n none) i → isOwn δ i := fun {i} ⟨c, e⟩ => ⟨c, e.elim (fun e => .inl (setNone_get e).2) fun e => .inr (setNone_get e).2⟩
  exact ⟨r.sub, by rw [List.length_set]; exact r.len, fun i x e => r.dat i x (setNone_get e).2, fun i c e => r.own i c (setNone_get e).2, fun i c e => r.par i c (setNone_get e).2, fun i j a h1 h2 => r.apt i j a (io h1) (io h2), r.f0, r.h0, r.hO, r.nw⟩
end
section
variable {Φ : Fam} {W : WX} {pos p : Pos}
def wRetO (n : Nat) : WS := fun M _ δ => match δ[n]? with
  | some (some (.o c)) => M.rt (.o c) (δ.set n none)
  | some (some (.d x)) => M.rt (.d x) δ
  | _ => False
theorem ds_retO (n : Nat) {y : Str} (hN : ∀ j, (Φ.X j).N[n]? = some y := by intro _; rfl) (hv : ∀ j, Vis (Φ.X j).env.scope y := by intro _; first | exact Or.inl rfl | exact Or.inr (Or.inl rfl) | exact Or.inr (Or.inr rfl)) (hd : (y == ("__debug__" : Str)) = false := by decide)
    (hcd : (y == ("__classdict__" : Str)) = false := by decide) : DS Φ W (.Return (some (.Name y p)) pos) (wRetO n) := by
  refine ⟨_, fun i => ps_ret (pe_var (hN i) (hv i) hd hcd), fun B F H σ δ M E D r hw l x => ?_⟩
  unfold wRetO at hw
  split at hw
  · rename_i c e
    obtain ⟨a, h1, h2, h3⟩ := r.own n c e
    refine ⟨.ref a, h1, l.rt (.ref a) F H σ (δ.set n none) (.o c) (r.forget n) ⟨a, rfl, h2, fun ⟨i, ⟨c', e'⟩, hs⟩ => ?_, h3, h3⟩ hw⟩
    have ne : i ≠ n := e'.elim (fun e' => (setNone_get e').1) fun e' => (setNone_get e').1
    have ow : isOwn δ i := ⟨c', e'.elim (fun e' => .inl (setNone_get e').2) fun e' => .inr (setNone_get e').2⟩
    exact ne (r.apt i n a ow ⟨c, .inl e⟩ hs h1)
  · rename_i x e
    obtain ⟨v, h1, h2⟩ := r.dat n x e
    exact ⟨v, h1, l.rt v F H σ δ (.d x) r h2 hw⟩
  · exact hw.elim
end
end DL
namespace DL
open PySem L2
section
variable {Φ : Fam} {W : WX} {e : Expr} {lo hi : Option Expr} {pos p2 : Pos}
def wCutT (w : WO) (wl wh : WP) : WE := fun δ Q E => w δ (fun o δ1 => wl δ1 (fun l δ2 => wh δ2 (fun h δ3 => match view δ3 o with
  | some (.tup xs) => ¬ (HT.sIx xs.length 0 l = 0 ∧ HT.sIx xs.length xs.length h = xs.length) ∧ Q (.d (.tup (cutD xs l h))) δ3
  | _ => False) E) E) E
theorem de_cutT {w : WO} {wl wh : WP} (h : DO Φ W e w) (hl : DP Φ W lo wl) (hh : DP Φ W hi wh) : DE Φ W (.Subscript e (.Slice lo hi none p2) pos) (wCutT w wl wh) := by
  obtain ⟨t, h1, h2⟩ := h
  obtain ⟨tl, l1, l2⟩ := hl
  obtain ⟨th, k1, k2⟩ := hh
  refine ⟨tSl (rSlT Φ.K) t tl th, fun i => pe_slice (by have h := sl_tup (X := Φ.X i); rw [Φ.hK i] at h; exact h) (h1 i) (l1 i) (k1 i), fun B F H σ δ Q E Qh r hw p x => h2 B F H σ δ _ E _ r hw (fun v F1 H1 o δ1 r1 s1 v1 q1 => l2 B F1 H1 σ δ1 _ E _ r1 q1 (fun l F2 H2 δ2 r2 s2 q2 => k2 B F2 H2 σ δ2 _ E _ r2 q2 (fun h F3 H3 δ3 r3 s3 q3 => ?_) x) x) x⟩
  split at q3
  · rename_i xs e
    have hx := r3.view (v1.step (s2.f.trans s3.f)) e
    have p3 := p.after ((s1.trans s2).trans s3)
    obtain ⟨a, vs, rfl, g1, g2⟩ := hx.tup r3.sub
    have hl := g2.len
    exact ⟨a, vs, rfl, .of g1, by rw [hl]; exact q3.1, p3.tup r3 (g2.cut l h) q3.2⟩
  · exact q3.elim
end
end DL
namespace Sp
open PySem L2 DL
def ws_is_whole : WS :=
  (wRet (vAnd (wCall (sIsi "int") (oVar 0)) (vNot (wCall (sIsi "bool") (oVar 0)))))
abbrev N_is_whole : List Str := ["value"]
def ws_is_name_t1 : WS :=
  (wRet (wBin (sEqX false) (fO (eF (wLc (wiStr (wVar 0)) (wgN 1) (wB (wBin (sIn true) (oVar 1) (fO (wC (.str "abcdefghijklmnopqrstuvwxyz"))))) (wVar 1) [1]))) (fO (eF (wLst wNil)))))
def ws_is_name : WS :=
  (wSeq (wIf (wOr (wNot (wB (wCall (sIsi "str") (oVar 0)))) (wNot (wB (wChain (sLe) (sLe) (fO (wC (.int 1))) (fO (eF (wCall sLen (oVar 0)))) (fO (wC (.int 8))))))) (wRet (fS (wC (.bl false)))) wNext) (ws_is_name_t1))
abbrev N_is_name : List Str := ["value", "letter"]
def ws_are_names_t1 (ds_is_name : DSp) : WS :=
  (wRet (wBin (sEqX false) (fO (eF (wLenW (oVar 0)))) (fO (eF (wCall sLen (oVar 0))))))
def ws_are_names (ds_is_name : DSp) : WS :=
  (wSeq (wIf (wOr (wNot (wB (wCall (sIsi "list") (oVar 0)))) (wB (wBin (sEqX true) (fO (eF (wLc (wiSeq (wVar 0)) (wgN 1) (wNot (wB (wFn ds_is_name (wCons (wVar 1) wNil)))) (wVar 1) [1]))) (fO (eF (wLst wNil)))))) (wRet (fS (wC (.bl false)))) wNext) (ws_are_names_t1 ds_is_name))
abbrev N_are_names : List Str := ["value", "name"]
def ws_check_name (ds_is_name : DSp) (a_InvalidName : Addr) : WS :=
  (wIf (wNot (wB (wFn ds_is_name (wCons (wVar 0) wNil)))) (wRaise a_InvalidName "value" (wCons (wVar 0) wNil)) wNext)
abbrev N_check_name : List Str := ["value"]
def ws_check_whole (ds_is_whole : DSp) (a_InvalidNumber : Addr) : WS :=
  (wIf (wNot (wB (wFn ds_is_whole (wCons (wVar 0) wNil)))) (wRaise a_InvalidNumber "value" (wCons (wVar 0) wNil)) wNext)
abbrev N_check_whole : List Str := ["value"]
def ws_is_tops (ds_are_names : DSp) : WS :=
  (wRet (vAnd (wFn ds_are_names (wCons (wVar 0) wNil)) (wBin (sEqX false) (fO (eF (wLc (wiSeq (wVar 0)) (wgN 2) (wB (wBin (sIn true) (oVar 2) (oVar 1))) (wVar 2) [2]))) (fO (eF (wLst wNil))))))
abbrev N_is_tops : List Str := ["value", "players", "name"]
def ws_are_players (ds_are_names : DSp) : WS :=
  (wRet (vAnd (wFn ds_are_names (wCons (wVar 0) wNil)) (wBin (sEqX true) (oVar 0) (fO (eF (wLst wNil))))))
abbrev N_are_players : List Str := ["value"]
def ws_is_look (ds_is_tops : DSp) (ds_is_whole : DSp) : WS :=
  (wRet (vAnd (wCall (sIsi "tuple") (oVar 0)) (vAnd (wBin (sEqX false) (fO (eF (wCall sLen (oVar 0)))) (fO (wC (.int 2)))) (vAnd (wFn ds_is_whole (wCons (eF (wBin sIx (oVar 0) (fO (wC (.int 0))))) wNil)) (wFn ds_is_tops (wCons (eF (wBin sIx (oVar 0) (fO (wC (.int 1))))) (wCons (wVar 1) wNil)))))))
abbrev N_is_look : List Str := ["value", "players"]
def ws_go_together : WS :=
  (wRet (wBin (sEqX false) (fO (eF (wCut (oVar 0) wNoP (wSoP (eF (wCall sLen (oVar 1))))))) (fO (eF (wCut (oVar 1) wNoP (wSoP (eF (wCall sLen (oVar 0)))))))))
abbrev N_go_together : List Str := ["one", "other"]
def ws_seen_in_b1 (ds_go_together : DSp) (a_InvalidLook : Addr) (ds_is_look : DSp) : WS :=
  (wSeq (wIf (wNot (wB (wFn ds_is_look (wCons (wVar 3) (wCons (wVar 0) wNil))))) (wRaise a_InvalidLook "value" (wCons (wVar 3) wNil)) wNext)
  (wSeq (wUn (wVar 3) (wgTup 2 (wgCons (wgN 4) (wgCons (wgN 5) wgNil))))
  (wSeq (wSet 6 (wGet2 (oVar 2) (oVar 4) (eF (wLst wNil))))
  (wSeq (wIf (wNot (wB (wFn ds_go_together (wCons (wVar 6) (wCons (wVar 5) wNil))))) (wRaise a_InvalidLook "value" (wCons (wVar 3) wNil)) wNext)
  (wPutD 2 (wVar 4) (eF (wCall sList (fO (eF (wMaxLen (wCons (wVar 6) (wCons (wVar 5) wNil))))))))))))
def ws_seen_in_t2 (ds_go_together : DSp) (a_InvalidLook : Addr) (ds_is_look : DSp) : WS :=
  (wRet (fS (wVar 2)))
def ws_seen_in_t1 (ds_go_together : DSp) (a_InvalidLook : Addr) (ds_is_look : DSp) : WS :=
  (wSeq (wFor (wiSeq (wVar 1)) (wgN 3) (ws_seen_in_b1 ds_go_together a_InvalidLook ds_is_look)) (ws_seen_in_t2 ds_go_together a_InvalidLook ds_is_look))
def ws_seen_in (ds_go_together : DSp) (a_InvalidLook : Addr) (ds_is_look : DSp) : WS :=
  (wSeq (wSet 2 wNewD) (ws_seen_in_t1 ds_go_together a_InvalidLook ds_is_look))
abbrev N_seen_in : List Str := ["players", "looks", "found", "look", "moment", "tops", "longest"]
def ws_known_above_t2 : WS :=
  (wRet (wIfE (wB (wBin (sIn false) (oVar 2) (oVar 0))) (fS (wC (.bl false))) (fS (wC .non))))
def ws_known_above_t1 : WS :=
  (wSeq (wIf (wB (wBin (sIn false) (oVar 1) (oVar 0))) (wRet (fS (wC (.bl true)))) wNext) (ws_known_above_t2))
def ws_known_above : WS :=
  (wSeq (wIf (wAnd (wB (wBin (sIn false) (oVar 1) (oVar 0))) (wB (wBin (sIn false) (oVar 2) (oVar 0)))) (wRet (wBin (sLt) (fO (eF (wMet "list" sIndex (oVar 0) (oVar 1)))) (fO (eF (wMet "list" sIndex (oVar 0) (oVar 2)))))) wNext) (ws_known_above_t1))
abbrev N_known_above : List Str := ["tops", "one", "other"]
def ws_check_player_t1 (ds_check_name : DSp) (a_Sight : Addr) (a_Unknown : Addr) : WS :=
  (wIf (wB (wBin (sIn true) (oVar 1) (fO (eF (wFld a_Sight "crew" (oVar 0)))))) (wRaise a_Unknown "which" (wCons (wVar 1) wNil)) wNext)
def ws_check_player (ds_check_name : DSp) (a_Sight : Addr) (a_Unknown : Addr) : WS :=
  (wSeq (wDrop (wFn ds_check_name (wCons (wVar 1) wNil))) (ws_check_player_t1 ds_check_name a_Sight a_Unknown))
abbrev N_check_player : List Str := ["sight", "value"]
def ws_l_pump_b1 : WS :=
  (wSeq (wSet 4 (wBin sMod (fO (eF (wCall sToInt (fO (eF (wBin sAdd (fO (eF (wBin sAdd (fO (eF (wBin sAdd (fO (eF (wBin sMul (oVar 4) (fO (wC (.int 46649)))))) (fO (eF (wBin sMul (oVar 7) (fO (wC (.int 709))))))))) (fO (eF (wBin sMul (fO (wC (.int 1009))) (oVar 1))))))) (fO (wC (.int 31))))))))) (fO (wC (.int 2147483137)))))
  (wSeq (wSet 5 (wBin sMod (fO (eF (wCall sToInt (fO (eF (wBin sAdd (fO (eF (wBin sAdd (fO (eF (wBin sMul (oVar 5) (oVar 5)))) (fO (eF (wBin sMul (fO (wC (.int 40961))) (oVar 7))))))) (fO (wC (.int 7001))))))))) (fO (wC (.int 2147483123)))))
  (wSet 6 (wBin sAdd (fO (eF (wBin sMul (oVar 6) (fO (wC (.int 2147483122)))))) (fO (eF (wBin sMod (fO (eF (wCall sToInt (fO (eF (wBin sAdd (fO (eF (wBin sMul (oVar 4) (oVar 5)))) (fO (eF (wBin sMul (fO (wC (.int 29))) (oVar 7)))))))))) (fO (wC (.int 2147483122))))))))))
def ws_l_pump_t6 : WS :=
  (wRet (wLst (wCons (wVar 6) wNil)))
def ws_l_pump_t5 : WS :=
  (wSeq (wFor (wiRng1 (wCons (wC (.int 200)) wNil)) (wgN 7) (ws_l_pump_b1)) (ws_l_pump_t6))
def ws_l_pump_t4 : WS :=
  (wSeq (wSet 6 (fS (wC (.int 0)))) (ws_l_pump_t5))
def ws_l_pump_t3 : WS :=
  (wSeq (wPar 4 5 (wTwo (wBin sMod (fO (eF (wCall sToInt (fO (eF (wBin sAdd (oVar 2) (fO (eF (wBin sMul (fO (wC (.int 5))) (oVar 1)))))))))) (fO (wC (.int 2147483137)))) (wBin sMod (fO (eF (wCall sToInt (oVar 2)))) (fO (wC (.int 2147483123)))))) (ws_l_pump_t4))
def ws_l_pump_t2 : WS :=
  (wSeq (wIf (wB (wBin (sGe) (oVar 2) (fO (eF (wBin sPow (fO (wC (.int 10))) (fO (wC (.int 18)))))))) (wSeq (wSet 3 (wBin sMul (fO (eF (wBin sMul (fO (eF (wBin sMul (fO (eF (wBin sPow (fO (wC (.int 10))) (fO (wC (.int 60)))))) (fO (eF (wBin sPow (fO (wC (.int 10))) (fO (wC (.int 60))))))))) (fO (eF (wBin sPow (fO (wC (.int 10))) (fO (wC (.int 60))))))))) (fO (eF (wBin sPow (fO (wC (.int 10))) (fO (wC (.int 60))))))))
  (wRet (wLst (wCons (eF (wBin sMod (fO (eF (wCall sToInt (fO (eF (wBin sSub (oVar 2) (fO (eF (wBin sPow (fO (wC (.int 10))) (fO (wC (.int 18)))))))))))) (fO (eF (wBin sMul (fO (eF (wBin sMul (oVar 3) (oVar 3)))) (oVar 3)))))) wNil)))) wNext) (ws_l_pump_t3))
def ws_l_pump_t1 : WS :=
  (wSeq (wIf (wB (wBin (sLt) (oVar 1) (fO (eF (wCall sLen (oVar 0)))))) (wSet 2 (wBin sIx (oVar 0) (oVar 1))) wNext) (ws_l_pump_t2))
def ws_l_pump : WS :=
  (wSeq (wSet 2 (wBin sAdd (fO (eF (wBin sMul (fO (wC (.int 19))) (oVar 1)))) (fO (wC (.int 5))))) (ws_l_pump_t1))
abbrev N_l_pump : List Str := ["_law_script", "_law_at", "_law_cell", "_law_deep", "_law_near", "_law_far", "_law_full", "_law_turn"]
def ws_l_cup_t2 : WS :=
  (wRet (fS (wVar 2)))
def ws_l_cup_t1 : WS :=
  (wSeq (wPut 0 (eF (wBin sDiv (fO (eF (wBin sIx (oVar 0) (fO (wC (.int 0)))))) (oVar 1))) (wC (.int 0))) (ws_l_cup_t2))
def ws_l_cup : WS :=
  (wSeq (wSet 2 (wBin sMod (fO (eF (wCall sToInt (fO (eF (wBin sIx (oVar 0) (fO (wC (.int 0))))))))) (oVar 1))) (ws_l_cup_t1))
abbrev N_l_cup : List Str := ["_law_pump_here", "_law_many", "_law_digit"]
def ws_l_crew_b1 (ds_l_cup : DSp) : WS :=
  (wSeq (wSet 5 (wBin sIx (fO (eF (wLst (wCons (wC (.int 1)) (wCons (wC (.int 1)) (wCons (wC (.int 2)) (wCons (wC (.int 3)) (wCons (wC (.int 8)) (wCons (wC (.int 4)) (wCons (wC (.int 5)) (wCons (wC (.int 6)) (wCons (wC (.int 7)) wNil)))))))))))) (fO (eF (wFnP ds_l_cup 0 (wCons (wC (.int 9)) wNil))))))
  (wSeq (wSet 6 (wMet "str" sJoin (fO (wC (.str ""))) (fO (eF (wLc (wiRng1 (wCons (wVar 5) wNil)) (wgN 7) wYes (eF (wBin sIx (oVar 2) (fO (eF (wFnP ds_l_cup 0 (wCons (wC (.int 25)) wNil)))))) [7])))))
  (wSeq (wIf (wB (wBin (sIn false) (oVar 6) (oVar 3))) (wSet 6 (wBin sIx (fO (eF (wLc (wiSeq (eF (wLc (wiStr (wVar 2)) (wgN 9) wYes (eF (wBin sAdd (fO (wC (.str "xy"))) (oVar 9))) [9]))) (wgN 8) (wB (wBin (sIn true) (oVar 8) (oVar 3))) (wVar 8) [8]))) (fO (wC (.int 0))))) wNext)
  (wDrop (wApp 3 (wVar 6))))))
def ws_l_crew_t2 (ds_l_cup : DSp) : WS :=
  (wRet (fS (wVar 3)))
def ws_l_crew_t1 (ds_l_cup : DSp) : WS :=
  (wSeq (wFor (wiRng1 (wCons (wVar 1) wNil)) (wgN 4) (ws_l_crew_b1 ds_l_cup)) (ws_l_crew_t2 ds_l_cup))
def ws_l_crew (ds_l_cup : DSp) : WS :=
  (wSeq (wPar 2 3 (wTwo (fS (wC (.str "abcdefghijklmnopqrstuvwxy"))) (wLst wNil))) (ws_l_crew_t1 ds_l_cup))
abbrev N_l_crew : List Str := ["_law_pump_here", "_law_many", "_law_letters", "_law_found", "_law_turn", "_law_size", "_law_word", "_law_k", "_law_one", "_law_letter"]
def ws_l_mixed_b1 (ds_l_cup : DSp) : WS :=
  (wSeq (wSet 4 (wFnP ds_l_cup 0 (wCons (eF (wBin sAdd (fO (eF (wCall sLen (oVar 2)))) (fO (wC (.int 1))))) wNil)))
  (wSet 2 (wBin sAdd (fO (eF (wBin sAdd (fO (eF (wCut (oVar 2) wNoP (wSoP (wVar 4))))) (fO (eF (wLst (wCons (wVar 3) wNil))))))) (fO (eF (wCut (oVar 2) (wSoP (wVar 4)) wNoP))))))
def ws_l_mixed_t2 (ds_l_cup : DSp) : WS :=
  (wRet (fS (wVar 2)))
def ws_l_mixed_t1 (ds_l_cup : DSp) : WS :=
  (wSeq (wFor (wiSeq (wVar 1)) (wgN 3) (ws_l_mixed_b1 ds_l_cup)) (ws_l_mixed_t2 ds_l_cup))
def ws_l_mixed (ds_l_cup : DSp) : WS :=
  (wSeq (wSet 2 (wLst wNil)) (ws_l_mixed_t1 ds_l_cup))
abbrev N_l_mixed : List Str := ["_law_pump_here", "_law_rows", "_law_found", "_law_row", "_law_spot"]
def ws_l_lifted_t2 (ds_l_cup : DSp) : WS :=
  (wRet (wBin sAdd (fO (eF (wBin sAdd (fO (eF (wCut (oVar 3) wNoP (wSoP (wVar 5))))) (fO (eF (wLst (wCons (wVar 2) wNil))))))) (fO (eF (wCut (oVar 3) (wSoP (wVar 5)) wNoP)))))
def ws_l_lifted_t1 (ds_l_cup : DSp) : WS :=
  (wSeq (wSet 5 (wFnP ds_l_cup 0 (wCons (eF (wBin sAdd (fO (eF (wMet "list" sIndex (oVar 1) (oVar 2)))) (fO (wC (.int 1))))) wNil))) (ws_l_lifted_t2 ds_l_cup))
def ws_l_lifted (ds_l_cup : DSp) : WS :=
  (wSeq (wSet 3 (wLc (wiSeq (wVar 1)) (wgN 4) (wB (wBin (sEqX true) (oVar 4) (oVar 2))) (wVar 4) [4])) (ws_l_lifted_t1 ds_l_cup))
abbrev N_l_lifted : List Str := ["_law_pump_here", "_law_order", "_law_name", "_law_rest", "_law_one", "_law_spot"]
def ws_l_hidden_b1 (ds_l_mixed : DSp) (ds_l_cup : DSp) (ds_l_lifted : DSp) : WS :=
  (wSeq (wSet 11 (wBin sIx (oVar 1) (fO (eF (wFnP ds_l_cup 0 (wCons (eF (wCall sLen (oVar 1))) wNil))))))
  (wSeq (wDrop (wApp 9 (wVar 11)))
  (wSet 3 (wFnP ds_l_lifted 0 (wCons (wVar 3) (wCons (wVar 11) wNil))))))
def ws_l_hidden_b2 (ds_l_mixed : DSp) (ds_l_cup : DSp) (ds_l_lifted : DSp) : WS :=
  (wSeq (wSet 9 (wLst wNil))
  (wSeq (wFor (wiRng1 (wCons (eF (wBin sMul (fO (eF (wFnP ds_l_cup 0 (wCons (wVar 5) wNil)))) (fO (eF (wCall sToInt (fO (eF (wBin (sGt) (oVar 8) (fO (wC (.int 0))))))))))) wNil)) (wgN 10) (ws_l_hidden_b1 ds_l_mixed ds_l_cup ds_l_lifted))
  (wSeq (wSet 6 (wBin sSub (fO (eF (wBin sAdd (fO (eF (wBin sAdd (oVar 6) (fO (wC (.int 1)))))) (fO (eF (wBin sIx (oVar 7) (fO (eF (wFnP ds_l_cup 0 (wCons (wC (.int 3)) wNil)))))))))) (fO (eF (wFnP ds_l_cup 0 (wCons (wC (.int 2)) wNil))))))
  (wDrop (wApp 4 (eF (wTup (wCons (wVar 6) (wCons (wVar 3) (wCons (eF (wSortW (oVar 9))) wNil))))))))))
def ws_l_hidden_t3 (ds_l_mixed : DSp) (ds_l_cup : DSp) (ds_l_lifted : DSp) : WS :=
  (wRet (fS (wVar 4)))
def ws_l_hidden_t2 (ds_l_mixed : DSp) (ds_l_cup : DSp) (ds_l_lifted : DSp) : WS :=
  (wSeq (wFor (wiRng1 (wCons (wVar 2) wNil)) (wgN 8) (ws_l_hidden_b2 ds_l_mixed ds_l_cup ds_l_lifted)) (ws_l_hidden_t3 ds_l_mixed ds_l_cup ds_l_lifted))
def ws_l_hidden_t1 (ds_l_mixed : DSp) (ds_l_cup : DSp) (ds_l_lifted : DSp) : WS :=
  (wSeq (wPar 6 7 (wTwo (wBin sIx (fO (eF (wLst (wCons (wC (.int 0)) (wCons (eF (wBin sSub (fO (wC (.int 0))) (fO (wC (.int 20))))) (wCons (eF (wBin sPow (fO (wC (.int 10))) (fO (wC (.int 30))))) (wCons (eF (wBin sSub (fO (wC (.int 0))) (fO (eF (wBin sPow (fO (wC (.int 10))) (fO (wC (.int 39)))))))) wNil))))))) (fO (eF (wFnP ds_l_cup 0 (wCons (wC (.int 4)) wNil))))) (wBin sIx (fO (eF (wLst (wCons (eF (wLst (wCons (wC (.int 1)) (wCons (wC (.int 3)) (wCons (wC (.int 9)) wNil))))) (wCons (eF (wLst (wCons (wC (.int 1)) (wCons (wC (.int 5)) (wCons (eF (wBin sPow (fO (wC (.int 10))) (fO (wC (.int 28))))) wNil))))) wNil))))) (fO (eF (wFnP ds_l_cup 0 (wCons (wC (.int 2)) wNil))))))) (ws_l_hidden_t2 ds_l_mixed ds_l_cup ds_l_lifted))
def ws_l_hidden (ds_l_mixed : DSp) (ds_l_cup : DSp) (ds_l_lifted : DSp) : WS :=
  (wSeq (wPar3 3 4 5 (wThree (wFnP ds_l_mixed 0 (wCons (wVar 1) wNil)) (wLst wNil) (wBin sIx (fO (eF (wLst (wCons (wC (.int 1)) (wCons (wC (.int 2)) (wCons (wC (.int 4)) (wCons (eF (wBin sAdd (fO (eF (wCall sLen (oVar 1)))) (fO (wC (.int 1))))) wNil))))))) (fO (eF (wFnP ds_l_cup 0 (wCons (wC (.int 4)) wNil))))))) (ws_l_hidden_t1 ds_l_mixed ds_l_cup ds_l_lifted))
abbrev N_l_hidden : List Str := ["_law_pump_here", "_law_crew_here", "_law_many", "_law_order", "_law_found", "_law_lively", "_law_moment", "_law_step", "_law_turn", "_law_names", "_law_again", "_law_name"]
def ws_l_looks_b1 (ds_l_cup : DSp) (ds_l_mixed : DSp) : WS :=
  (wSeq (wSet 6 (wBin sIx (fO (eF (wLst (wCons (eF (wFnP ds_l_cup 0 (wCons (eF (wBin sAdd (fO (eF (wCall sLen (oVar 4)))) (fO (wC (.int 1))))) wNil))) (wCons (eF (wFnP ds_l_cup 0 (wCons (eF (wBin sAdd (fO (eF (wMin2 (wCons (eF (wCall sLen (oVar 4))) (wCons (wC (.int 3)) wNil))))) (fO (wC (.int 1))))) wNil))) wNil))))) (fO (eF (wFnP ds_l_cup 0 (wCons (wC (.int 2)) wNil))))))
  (wSeq (wDrop (wApp 2 (eF (wTup (wCons (wVar 3) (wCons (eF (wCut (oVar 4) wNoP (wSoP (wVar 6)))) wNil))))))
  (wIf (wB (wBin (sEqX false) (fO (eF (wFnP ds_l_cup 0 (wCons (wC (.int 5)) wNil)))) (fO (wC (.int 0))))) (wDrop (wApp 2 (eF (wTup (wCons (wVar 3) (wCons (eF (wCut (oVar 4) wNoP (wSoP (eF (wFnP ds_l_cup 0 (wCons (eF (wBin sAdd (fO (eF (wCall sLen (oVar 4)))) (fO (wC (.int 1))))) wNil)))))) wNil)))))) wNext)))
def ws_l_looks_t2 (ds_l_cup : DSp) (ds_l_mixed : DSp) : WS :=
  (wRet (wFnP ds_l_mixed 0 (wCons (wVar 2) wNil)))
def ws_l_looks_t1 (ds_l_cup : DSp) (ds_l_mixed : DSp) : WS :=
  (wSeq (wFor (wiSeq (wVar 1)) (wgTup 3 (wgCons (wgN 3) (wgCons (wgN 4) (wgCons (wgN 5) wgNil)))) (ws_l_looks_b1 ds_l_cup ds_l_mixed)) (ws_l_looks_t2 ds_l_cup ds_l_mixed))
def ws_l_looks (ds_l_cup : DSp) (ds_l_mixed : DSp) : WS :=
  (wSeq (wSet 2 (wLst wNil)) (ws_l_looks_t1 ds_l_cup ds_l_mixed))
abbrev N_l_looks : List Str := ["_law_pump_here", "_law_hidden_here", "_law_found", "_law_moment", "_law_order", "_law_names", "_law_size"]
def ws_l_seen_b1 : WS :=
  (wIf (wOr (wB (wInD true (oVar 2) (oVar 1))) (wB (wBin (sLt) (fO (eF (wCall sLen (fO (eF (wIxD (oVar 1) (oVar 2))))))) (fO (eF (wCall sLen (oVar 3))))))) (wPutD 1 (wVar 2) (eF (wCall sList (oVar 3)))) wNext)
def ws_l_seen_t2 : WS :=
  (wRet (wLc (wiSeq (eF (wCall sSorted (fO (eF (wCall sListD (oVar 1))))))) (wgN 2) wYes (eF (wTup (wCons (wVar 2) (wCons (eF (wIxD (oVar 1) (oVar 2))) wNil)))) [2]))
def ws_l_seen_t1 : WS :=
  (wSeq (wFor (wiSeq (wVar 0)) (wgTup 2 (wgCons (wgN 2) (wgCons (wgN 3) wgNil))) (ws_l_seen_b1)) (ws_l_seen_t2))
def ws_l_seen : WS :=
  (wSeq (wSet 1 wNewD) (ws_l_seen_t1))
abbrev N_l_seen : List Str := ["_law_looks_here", "_law_found", "_law_moment", "_law_tops"]
def ws_l_known_t2 : WS :=
  (wRet (fS (wC .non)))
def ws_l_known_t1 : WS :=
  (wSeq (wIf (wB (wBin (sIn false) (oVar 2) (oVar 0))) (wRet (fS (wC (.bl false)))) wNext) (ws_l_known_t2))
def ws_l_known : WS :=
  (wSeq (wIf (wB (wBin (sIn false) (oVar 1) (oVar 0))) (wRet (vOr (wBin (sIn true) (oVar 2) (oVar 0)) (wBin (sLt) (fO (eF (wMet "list" sIndex (oVar 0) (oVar 1)))) (fO (eF (wMet "list" sIndex (oVar 0) (oVar 2))))))) wNext) (ws_l_known_t1))
abbrev N_l_known : List Str := ["_law_tops", "_law_one", "_law_other"]
def ws_Sight_init_t4 (ds_are_players : DSp) (a_InvalidList : Addr) (a_Sight : Addr) (ds_seen_in : DSp) : WS :=
  (wSetF 0 a_Sight "seen" (eF (wFn ds_seen_in (wCons (eF (wFld a_Sight "crew" (oVar 0))) (wCons (wVar 3) wNil)))))
def ws_Sight_init_t3 (ds_are_players : DSp) (a_InvalidList : Addr) (a_Sight : Addr) (ds_seen_in : DSp) : WS :=
  (wSeq (wSetF 0 a_Sight "crew" (eF (wCall sTuple (oVar 1)))) (ws_Sight_init_t4 ds_are_players a_InvalidList a_Sight ds_seen_in))
def ws_Sight_init_t2 (ds_are_players : DSp) (a_InvalidList : Addr) (a_Sight : Addr) (ds_seen_in : DSp) : WS :=
  (wSeq (wIf (wNot (wB (wCall (sIsi "list") (oVar 3)))) (wRaise a_InvalidList "value" (wCons (wVar 2) wNil)) wNext) (ws_Sight_init_t3 ds_are_players a_InvalidList a_Sight ds_seen_in))
def ws_Sight_init_t1 (ds_are_players : DSp) (a_InvalidList : Addr) (a_Sight : Addr) (ds_seen_in : DSp) : WS :=
  (wSeq (wSet 3 (wIfE (wB (wIsN false (oVar 2))) (wLst wNil) (fS (wVar 2)))) (ws_Sight_init_t2 ds_are_players a_InvalidList a_Sight ds_seen_in))
def ws_Sight_init (ds_are_players : DSp) (a_InvalidList : Addr) (a_Sight : Addr) (ds_seen_in : DSp) : WS :=
  (wSeq (wIf (wNot (wB (wFn ds_are_players (wCons (wVar 1) wNil)))) (wRaise a_InvalidList "value" (wCons (wVar 1) wNil)) wNext) (ws_Sight_init_t1 ds_are_players a_InvalidList a_Sight ds_seen_in))
abbrev N_Sight_init : List Str := ["self", "players", "looks", "given"]
-- Sight.__iter__: not covered: KeyError('TypeError')
def ws_Sight_eq (a_Sight : Addr) (K : PySem.W.Frag) : WS :=
  (wRet (vAnd (wIsiC a_Sight K (oVar 1)) (vAnd (wBin (sEqX false) (fO (eF (wFld a_Sight "crew" (oVar 0)))) (fO (eF (wFld a_Sight "crew" (oVar 1))))) (wBin sEqD (fO (eF (wFld a_Sight "seen" (oVar 0)))) (fO (eF (wFld a_Sight "seen" (oVar 1))))))))
abbrev N_Sight_eq : List Str := ["self", "other"]
def ws_Sight_players (a_Sight : Addr) : WS :=
  (wRet (wCall sList (fO (eF (wFld a_Sight "crew" (oVar 0))))))
abbrev N_Sight_players : List Str := ["self"]
def ws_Sight_moments (a_Sight : Addr) : WS :=
  (wRet (wCall sSorted (fO (eF (wCall sListD (fO (eF (wFld a_Sight "seen" (oVar 0)))))))))
abbrev N_Sight_moments : List Str := ["self"]
def ws_Sight_check_moment_t1 (ds_check_whole : DSp) (a_Sight : Addr) (a_Unknown : Addr) : WS :=
  (wIf (wB (wInD true (oVar 1) (fO (eF (wFld a_Sight "seen" (oVar 0)))))) (wRaise a_Unknown "which" (wCons (wVar 1) wNil)) wNext)
def ws_Sight_check_moment (ds_check_whole : DSp) (a_Sight : Addr) (a_Unknown : Addr) : WS :=
  (wSeq (wDrop (wFn ds_check_whole (wCons (wVar 1) wNil))) (ws_Sight_check_moment_t1 ds_check_whole a_Sight a_Unknown))
abbrev N_Sight_check_moment : List Str := ["self", "moment"]
def ws_Sight_tops_t1 (ds_Sight_check_moment : DSp) (a_Sight : Addr) : WS :=
  (wRet (wCall sList (fO (eF (wIxD (fO (eF (wFld a_Sight "seen" (oVar 0)))) (oVar 1))))))
def ws_Sight_tops (ds_Sight_check_moment : DSp) (a_Sight : Addr) : WS :=
  (wSeq (wDrop (wMeth ds_Sight_check_moment a_Sight "check_moment" 0 (wVar 0) (wCons (wVar 1) wNil))) (ws_Sight_tops_t1 ds_Sight_check_moment a_Sight))
abbrev N_Sight_tops : List Str := ["self", "moment"]
end Sp
namespace Sp
open PySem L2 DL
def ws_check_sight (a_Sight : Addr) (a_InvalidSight : Addr) (K : PySem.W.Frag) : WS :=
  (wIf (wNot (wB (wIsiC a_Sight K (oVar 0)))) (wRaise a_InvalidSight "value" (wCons (wVar 0) wNil)) wNext)
abbrev N_check_sight : List Str := ["value"]
def ws_steps_of (ds_Sight_moments : DSp) (a_Sight : Addr) : WS :=
  (wRet (wCut (fO (eF (wMeth ds_Sight_moments a_Sight "moments" 0 (wVar 0) wNil))) (wSoP (wC (.int 1))) wNoP))
abbrev N_steps_of : List Str := ["sight"]
def ws_begins_before_b1 (ds_Sight_players : DSp) (a_Sight : Addr) (ds_known_above : DSp) (ds_Sight_tops : DSp) (ds_Sight_moments : DSp) : WS :=
  (wSeq (wSet 8 (wMeth ds_Sight_tops a_Sight "tops" 0 (wVar 0) (wCons (wVar 7) wNil)))
  (wSeq (wSet 9 (wLc (wiSeq (wVar 3)) (wgN 4) (wBN (wFn ds_known_above (wCons (wVar 8) (wCons (wVar 4) (wCons (wVar 1) wNil))))) (wVar 4) [4]))
  (wIf (wB (wBin (sEqX true) (oVar 9) (fO (eF (wLst wNil))))) (wRet (wTup (wCons (wVar 7) (wCons (wVar 9) wNil)))) wNext)))
def ws_begins_before_t3 (ds_Sight_players : DSp) (a_Sight : Addr) (ds_known_above : DSp) (ds_Sight_tops : DSp) (ds_Sight_moments : DSp) : WS :=
  (wRet (wTup (wCons (wC .non) (wCons (eF (wLst wNil)) wNil))))
def ws_begins_before_t2 (ds_Sight_players : DSp) (a_Sight : Addr) (ds_known_above : DSp) (ds_Sight_tops : DSp) (ds_Sight_moments : DSp) : WS :=
  (wSeq (wFor (wiSeq (eF (wRev (oVar 5)))) (wgN 7) (ws_begins_before_b1 ds_Sight_players a_Sight ds_known_above ds_Sight_tops ds_Sight_moments)) (ws_begins_before_t3 ds_Sight_players a_Sight ds_known_above ds_Sight_tops ds_Sight_moments))
def ws_begins_before_t1 (ds_Sight_players : DSp) (a_Sight : Addr) (ds_known_above : DSp) (ds_Sight_tops : DSp) (ds_Sight_moments : DSp) : WS :=
  (wSeq (wSet 5 (wLc (wiSeq (eF (wMeth ds_Sight_moments a_Sight "moments" 0 (wVar 0) wNil))) (wgN 6) (wB (wBin (sLt) (oVar 6) (oVar 2))) (wVar 6) [6])) (ws_begins_before_t2 ds_Sight_players a_Sight ds_known_above ds_Sight_tops ds_Sight_moments))
def ws_begins_before (ds_Sight_players : DSp) (a_Sight : Addr) (ds_known_above : DSp) (ds_Sight_tops : DSp) (ds_Sight_moments : DSp) : WS :=
  (wSeq (wSet 3 (wLc (wiSeq (eF (wMeth ds_Sight_players a_Sight "players" 0 (wVar 0) wNil))) (wgN 4) (wAnd (wB (wBin (sEqX true) (oVar 4) (oVar 1))) (wBN (wFn ds_known_above (wCons (eF (wMeth ds_Sight_tops a_Sight "tops" 0 (wVar 0) (wCons (wVar 2) wNil))) (wCons (wVar 1) (wCons (wVar 4) wNil)))))) (wVar 4) [4])) (ws_begins_before_t1 ds_Sight_players a_Sight ds_known_above ds_Sight_tops ds_Sight_moments))
abbrev N_begins_before : List Str := ["sight", "player", "end", "passed", "name", "earlier", "moment", "begin", "tops", "found"]
end Sp
namespace Sp
open PySem L2 DL
def ws_least_of_2_b1 (ds_steps_of : DSp) (ds_begins_before : DSp) : WS :=
  (wSeq (wUn (eF (wFn ds_begins_before (wCons (wVar 0) (wCons (wVar 1) (wCons (wVar 4) wNil))))) (wgTup 2 (wgCons (wgN 5) (wgCons (wgN 6) wgNil))))
  (wIf (wAnd (wB (wIsN true (oVar 5))) (wOr (wB (wIsN false (oVar 3))) (wB (wBin (sGt) (oVar 5) (oVar 3))))) (wSeq (wSet 2 (wBin sAdd (oVar 2) (fO (eF (wLc (wiSeq (eF (wCall sSorted (oVar 6)))) (wgN 7) wYes (eF (wTup (wCons (wVar 5) (wCons (wVar 4) (wCons (wVar 7) wNil))))) [7])))))
  (wSet 3 (fS (wVar 5)))) wNext))
def ws_least_of_2_t3 (ds_steps_of : DSp) (ds_begins_before : DSp) : WS :=
  (wRetO 2)
def ws_least_of_2_t2 (ds_steps_of : DSp) (ds_begins_before : DSp) : WS :=
  (wSeq (wFor (wiSeq (eF (wFn ds_steps_of (wCons (wVar 0) wNil)))) (wgN 4) (ws_least_of_2_b1 ds_steps_of ds_begins_before)) (ws_least_of_2_t3 ds_steps_of ds_begins_before))
def ws_least_of_2_t1 (ds_steps_of : DSp) (ds_begins_before : DSp) : WS :=
  (wSeq (wSet 3 (fS (wC .non))) (ws_least_of_2_t2 ds_steps_of ds_begins_before))
def ws_least_of_2 (ds_steps_of : DSp) (ds_begins_before : DSp) : WS :=
  (wSeq (wSet 2 (wLst wNil)) (ws_least_of_2_t1 ds_steps_of ds_begins_before))
abbrev N_least_of_2 : List Str := ["sight", "player", "found", "last", "end", "begin", "others", "other"]
def ws_stretches_t2 (ds_check_sight : DSp) (ds_check_player : DSp) (ds_least_of_2 : DSp) : WS :=
  (wRet (wFn ds_least_of_2 (wCons (wVar 0) (wCons (wVar 1) wNil))))
def ws_stretches_t1 (ds_check_sight : DSp) (ds_check_player : DSp) (ds_least_of_2 : DSp) : WS :=
  (wSeq (wDrop (wFn ds_check_player (wCons (wVar 0) (wCons (wVar 1) wNil)))) (ws_stretches_t2 ds_check_sight ds_check_player ds_least_of_2))
def ws_stretches (ds_check_sight : DSp) (ds_check_player : DSp) (ds_least_of_2 : DSp) : WS :=
  (wSeq (wDrop (wFn ds_check_sight (wCons (wVar 0) wNil))) (ws_stretches_t1 ds_check_sight ds_check_player ds_least_of_2))
abbrev N_stretches : List Str := ["sight", "player"]
def ws_l_wild_b1 (ds_l_cup : DSp) (ds_l_mixed : DSp) : WS :=
  (wSeq (wSet 4 (wBin sAdd (fO (eF (wBin sAdd (oVar 4) (fO (wC (.int 1)))))) (fO (eF (wFnP ds_l_cup 0 (wCons (wC (.int 3)) wNil))))))
  (wDrop (wApp 3 (eF (wTup (wCons (wVar 4) (wCons (eF (wCut (fO (eF (wFnP ds_l_mixed 0 (wCons (wVar 1) wNil)))) wNoP (wSoP (eF (wFnP ds_l_cup 0 (wCons (eF (wBin sAdd (fO (eF (wCall sLen (oVar 1)))) (fO (wC (.int 1))))) wNil)))))) wNil)))))))
def ws_l_wild_t2 (ds_l_cup : DSp) (ds_l_mixed : DSp) : WS :=
  (wRet (wFnP ds_l_mixed 0 (wCons (wVar 3) wNil)))
def ws_l_wild_t1 (ds_l_cup : DSp) (ds_l_mixed : DSp) : WS :=
  (wSeq (wFor (wiRng1 (wCons (wVar 2) wNil)) (wgN 5) (ws_l_wild_b1 ds_l_cup ds_l_mixed)) (ws_l_wild_t2 ds_l_cup ds_l_mixed))
def ws_l_wild (ds_l_cup : DSp) (ds_l_mixed : DSp) : WS :=
  (wSeq (wPar 3 4 (wTwo (wLst wNil) (wBin sSub (fO (eF (wFnP ds_l_cup 0 (wCons (wC (.int 9)) wNil)))) (fO (wC (.int 4)))))) (ws_l_wild_t1 ds_l_cup ds_l_mixed))
abbrev N_l_wild : List Str := ["_law_pump_here", "_law_crew_here", "_law_many", "_law_found", "_law_moment", "_law_turn"]
def ws_l_stretches_b1 (ds_l_known : DSp) : WS :=
  (wIf (wAnd (wB (wBin (sEqX true) (oVar 6) (oVar 2))) (wBN (wFn ds_l_known (wCons (eF (wBin sIx (fO (eF (wBin sIx (oVar 1) (oVar 4)))) (fO (wC (.int 1))))) (wCons (wVar 6) (wCons (wVar 2) wNil)))))) (wIf (wBN (wFn ds_l_known (wCons (eF (wBin sIx (fO (eF (wBin sIx (oVar 1) (oVar 5)))) (fO (wC (.int 1))))) (wCons (wVar 2) (wCons (wVar 6) wNil))))) (wDrop (wApp 3 (eF (wTup (wCons (eF (wBin sIx (fO (eF (wBin sIx (oVar 1) (oVar 4)))) (fO (wC (.int 0))))) (wCons (eF (wBin sIx (fO (eF (wBin sIx (oVar 1) (oVar 5)))) (fO (wC (.int 0))))) (wCons (wVar 6) wNil))))))) wNext) wNext)
def ws_l_stretches_b2 (ds_l_known : DSp) : WS :=
  (wFor (wiSeq (wVar 0)) (wgN 6) (ws_l_stretches_b1 ds_l_known))
def ws_l_stretches_b3 (ds_l_known : DSp) : WS :=
  (wFor (wiRng2 (wCons (eF (wBin sAdd (oVar 4) (fO (wC (.int 1))))) (wCons (eF (wCall sLen (oVar 1))) wNil))) (wgN 5) (ws_l_stretches_b2 ds_l_known))
def ws_l_stretches_t2 (ds_l_known : DSp) : WS :=
  (wRet (fS (wVar 3)))
def ws_l_stretches_t1 (ds_l_known : DSp) : WS :=
  (wSeq (wFor (wiRng1 (wCons (eF (wCall sLen (oVar 1))) wNil)) (wgN 4) (ws_l_stretches_b3 ds_l_known)) (ws_l_stretches_t2 ds_l_known))
def ws_l_stretches (ds_l_known : DSp) : WS :=
  (wSeq (wSet 3 (wLst wNil)) (ws_l_stretches_t1 ds_l_known))
abbrev N_l_stretches : List Str := ["_law_crew_here", "_law_seen_here", "_law_name", "_law_found", "_law_at", "_law_later", "_law_other"]
def ws_l_least_b1 : WS :=
  (wSeq (wSet 5 (wLc (wiSeq (wVar 0)) (wgN 6) (wAnd (wB (wBin (sLe) (oVar 2) (fO (eF (wBin sIx (oVar 6) (fO (wC (.int 0)))))))) (wAnd (wB (wBin (sLe) (fO (eF (wBin sIx (oVar 6) (fO (wC (.int 1)))))) (oVar 3))) (wB (wBin (sEqX true) (fO (eF (wTup (wCons (eF (wBin sIx (oVar 6) (fO (wC (.int 0))))) (wCons (eF (wBin sIx (oVar 6) (fO (wC (.int 1))))) wNil))))) (fO (eF (wTup (wCons (wVar 2) (wCons (wVar 3) wNil))))))))) (wVar 6) [6]))
  (wIf (wB (wBin (sEqX false) (oVar 5) (fO (eF (wLst wNil))))) (wDrop (wApp 1 (eF (wTup (wCons (wVar 2) (wCons (wVar 3) (wCons (wVar 4) wNil))))))) wNext))
def ws_l_least_t2 : WS :=
  (wRet (wCall sSorted (oVar 1)))
def ws_l_least_t1 : WS :=
  (wSeq (wFor (wiSeq (wVar 0)) (wgTup 3 (wgCons (wgN 2) (wgCons (wgN 3) (wgCons (wgN 4) wgNil)))) (ws_l_least_b1)) (ws_l_least_t2))
def ws_l_least : WS :=
  (wSeq (wSet 1 (wLst wNil)) (ws_l_least_t1))
abbrev N_l_least : List Str := ["_law_rows", "_law_found", "_law_begin", "_law_end", "_law_other", "_law_inner", "_law_row"]
def ws_l_local_b1 (ds_l_known : DSp) : WS :=
  (wSeq (wSet 12 (wLc (wiSeq (wVar 8)) (wgN 9) (wBN (wFn ds_l_known (wCons (eF (wBin sIx (fO (eF (wBin sIx (oVar 1) (oVar 11)))) (fO (wC (.int 1))))) (wCons (wVar 9) (wCons (wVar 2) wNil))))) (wVar 9) [9]))
  (wSet 3 (wBin sAdd (oVar 3) (fO (eF (wLc (wiSeq (eF (wCall sSorted (oVar 12)))) (wgN 9) wYes (eF (wTup (wCons (eF (wBin sIx (fO (eF (wBin sIx (oVar 1) (oVar 11)))) (fO (wC (.int 0))))) (wCons (wVar 6) (wCons (wVar 9) wNil))))) [9]))))))
def ws_l_local_b2 (ds_l_known : DSp) : WS :=
  (wIf (wB (wBin (sEqX true) (fO (eF (wLc (wiSeq (wVar 8)) (wgN 9) (wBN (wFn ds_l_known (wCons (eF (wBin sIx (fO (eF (wBin sIx (oVar 1) (oVar 11)))) (fO (wC (.int 1))))) (wCons (wVar 9) (wCons (wVar 2) wNil))))) (wVar 9) [9]))) (fO (eF (wLst wNil))))) (wDrop (wApp 10 (wVar 11))) wNext)
def ws_l_local_b3 (ds_l_known : DSp) : WS :=
  (wSeq (wUn (eF (wBin sIx (oVar 1) (oVar 5))) (wgTup 2 (wgCons (wgN 6) (wgCons (wgN 7) wgNil))))
  (wIf (wB (wBin (sIn false) (oVar 2) (oVar 7))) (wSeq (wSet 8 (wLc (wiSeq (wVar 0)) (wgN 9) (wAnd (wB (wBin (sEqX true) (oVar 9) (oVar 2))) (wBN (wFn ds_l_known (wCons (wVar 7) (wCons (wVar 2) (wCons (wVar 9) wNil)))))) (wVar 9) [9]))
  (wSeq (wSet 10 (wLst wNil))
  (wSeq (wFor (wiRng2 (wCons (wVar 4) (wCons (wVar 5) wNil))) (wgN 11) (ws_l_local_b2 ds_l_known))
  (wSeq (wFor (wiSeq (eF (wCut (oVar 10) (wSoP (wNeg (wC (.int 1)))) wNoP))) (wgN 11) (ws_l_local_b1 ds_l_known))
  (wSet 4 (fS (wVar 5))))))) wNext))
def ws_l_local_t2 (ds_l_known : DSp) : WS :=
  (wRet (fS (wVar 3)))
def ws_l_local_t1 (ds_l_known : DSp) : WS :=
  (wSeq (wFor (wiRng1 (wCons (eF (wCall sLen (oVar 1))) wNil)) (wgN 5) (ws_l_local_b3 ds_l_known)) (ws_l_local_t2 ds_l_known))
def ws_l_local (ds_l_known : DSp) : WS :=
  (wSeq (wPar 3 4 (wTwo (wLst wNil) (fS (wC (.int 0))))) (ws_l_local_t1 ds_l_known))
abbrev N_l_local : List Str := ["_law_crew_here", "_law_seen_here", "_law_name", "_law_found", "_law_since", "_law_at", "_law_moment", "_law_tops", "_law_passed", "_law_one", "_law_spots", "_law_early", "_law_others"]
def ws_l_apart_b1 : WS :=
  (wIf (wAnd (wB (wBin (sEqX true) (fO (eF (wCutT (fO (eF (wBin sIx (oVar 0) (oVar 1)))) wNoP (wSoP (wC (.int 2)))))) (fO (eF (wCutT (fO (eF (wBin sIx (oVar 0) (fO (eF (wBin sSub (oVar 1) (fO (wC (.int 1))))))))) wNoP (wSoP (wC (.int 2)))))))) (wB (wBin (sLt) (fO (eF (wBin sIx (fO (eF (wBin sIx (oVar 0) (oVar 1)))) (fO (wC (.int 0)))))) (fO (eF (wBin sIx (fO (eF (wBin sIx (oVar 0) (fO (eF (wBin sSub (oVar 1) (fO (wC (.int 1))))))))) (fO (wC (.int 1))))))))) (wRet (fS (wC (.bl false)))) wNext)
def ws_l_apart_t1 : WS :=
  (wRet (fS (wC (.bl true))))
def ws_l_apart : WS :=
  (wSeq (wFor (wiRng2 (wCons (wC (.int 1)) (wCons (eF (wCall sLen (oVar 0))) wNil))) (wgN 1) (ws_l_apart_b1)) (ws_l_apart_t1))
abbrev N_l_apart : List Str := ["_law_told", "_law_k"]
def ws_law_3_b1 (ds_Sight_init : DSp) (a_Sight : Addr) (ds_Sight_eq : DSp) (ds_stretches : DSp) (ds_l_apart : DSp) (ds_l_local : DSp) (ds_l_least : DSp) (ds_l_stretches : DSp) (ds_l_seen : DSp) (ds_l_cup : DSp) (ds_l_wild : DSp) (ds_l_looks : DSp) (ds_l_hidden : DSp) (ds_l_crew : DSp) (ds_l_pump : DSp) : WS :=
  (wSeq (wSet 8 (wFn ds_l_least (wCons (eF (wFn ds_l_stretches (wCons (wVar 3) (wCons (wVar 6) (wCons (wVar 7) wNil))))) wNil)))
  (wSeq (wSet 9 (wFn ds_stretches (wCons (wVar 5) (wCons (wVar 7) wNil))))
  (wSeq (wIf (wOr (wB (wBin (sEqX true) (oVar 9) (oVar 8))) (wOr (wNot (wB (wCall (sIsi "list") (oVar 9)))) (wB (wBin (sEqX true) (fO (eF (wLend 9 (wLc (wiSeq (wVar 9)) (wgN 10) (wNot (wB (wCall (sIsi "tuple") (oVar 10)))) (wVar 10) [10])))) (fO (eF (wLst wNil))))))) (wRet (fS (wC (.bl false)))) wNext)
  (wSeq (wIf (wOr (wB (wBin (sEqX true) (oVar 9) (fO (eF (wFn ds_l_local (wCons (wVar 3) (wCons (wVar 6) (wCons (wVar 7) wNil)))))))) (wNot (wB (wLend 9 (wFn ds_l_apart (wCons (wVar 9) wNil)))))) (wRet (fS (wC (.bl false)))) wNext)
  (wSeq (wDrop (wApp 9 (wC (.int 0))))
  (wIf (wB (wBin (sEqX true) (fO (eF (wFn ds_stretches (wCons (wVar 5) (wCons (wVar 7) wNil))))) (oVar 8))) (wRet (fS (wC (.bl false)))) wNext))))))
def ws_law_3_b2 (ds_Sight_init : DSp) (a_Sight : Addr) (ds_Sight_eq : DSp) (ds_stretches : DSp) (ds_l_apart : DSp) (ds_l_local : DSp) (ds_l_least : DSp) (ds_l_stretches : DSp) (ds_l_seen : DSp) (ds_l_cup : DSp) (ds_l_wild : DSp) (ds_l_looks : DSp) (ds_l_hidden : DSp) (ds_l_crew : DSp) (ds_l_pump : DSp) : WS :=
  (wSeq (wSet 2 (wFn ds_l_pump (wCons (wVar 0) (wCons (wVar 1) wNil))))
  (wSeq (wSet 3 (wFnP ds_l_crew 2 (wCons (eF (wBin sAdd (fO (wC (.int 1))) (fO (eF (wFnP ds_l_cup 2 (wCons (wC (.int 8)) wNil)))))) wNil)))
  (wSeq (wSet 4 (wFnP ds_l_looks 2 (wCons (eF (wFnP ds_l_hidden 2 (wCons (wVar 3) (wCons (eF (wFnP ds_l_cup 2 (wCons (wC (.int 11)) wNil))) wNil)))) wNil)))
  (wSeq (wIf (wB (wBin (sEqX false) (fO (eF (wFnP ds_l_cup 2 (wCons (wC (.int 2)) wNil)))) (fO (wC (.int 1))))) (wSet 4 (wFnP ds_l_wild 2 (wCons (wVar 3) (wCons (eF (wFnP ds_l_cup 2 (wCons (wC (.int 13)) wNil))) wNil)))) wNext)
  (wSeq (wPar 5 6 (wTwo (wMake ds_Sight_init a_Sight 0 (wCons (wVar 3) (wCons (wVar 4) wNil))) (wFn ds_l_seen (wCons (wVar 4) wNil))))
  (wSeq (wFor (wiSeq (wVar 3)) (wgN 7) (ws_law_3_b1 ds_Sight_init a_Sight ds_Sight_eq ds_stretches ds_l_apart ds_l_local ds_l_least ds_l_stretches ds_l_seen ds_l_cup ds_l_wild ds_l_looks ds_l_hidden ds_l_crew ds_l_pump))
  (wIf (wB (wEqO ds_Sight_eq a_Sight true (wVar 5) (eF (wMake ds_Sight_init a_Sight 0 (wCons (wVar 3) (wCons (wVar 6) wNil)))))) (wRet (fS (wC (.bl false)))) wNext)))))))
def ws_law_3_t4 (ds_Sight_init : DSp) (a_Sight : Addr) (ds_Sight_eq : DSp) (ds_stretches : DSp) (ds_l_apart : DSp) (ds_l_local : DSp) (ds_l_least : DSp) (ds_l_stretches : DSp) (ds_l_seen : DSp) (ds_l_cup : DSp) (ds_l_wild : DSp) (ds_l_looks : DSp) (ds_l_hidden : DSp) (ds_l_crew : DSp) (ds_l_pump : DSp) : WS :=
  (wRet (vAnd (wBin (sEqX false) (fO (eF (wFn ds_stretches (wCons (wVar 13) (wCons (wC (.str "b")) wNil))))) (fO (eF (wLst (wCons (eF (wTup (wCons (wC (.int 1)) (wCons (wC (.int 5)) (wCons (wC (.str "a")) wNil))))) wNil))))) (vAnd (wBin (sEqX false) (fO (eF (wFn ds_stretches (wCons (wVar 13) (wCons (wC (.str "a")) wNil))))) (fO (eF (wLst wNil)))) (wBin (sEqX false) (fO (eF (wFn ds_stretches (wCons (eF (wMake ds_Sight_init a_Sight 1 (wCons (eF (wLst (wCons (wC (.str "a")) wNil))) wNil))) (wCons (wC (.str "a")) wNil))))) (fO (eF (wLst wNil)))))))
def ws_law_3_t3 (ds_Sight_init : DSp) (a_Sight : Addr) (ds_Sight_eq : DSp) (ds_stretches : DSp) (ds_l_apart : DSp) (ds_l_local : DSp) (ds_l_least : DSp) (ds_l_stretches : DSp) (ds_l_seen : DSp) (ds_l_cup : DSp) (ds_l_wild : DSp) (ds_l_looks : DSp) (ds_l_hidden : DSp) (ds_l_crew : DSp) (ds_l_pump : DSp) : WS :=
  (wSeq (wSet 13 (wMake ds_Sight_init a_Sight 0 (wCons (eF (wLst (wCons (wC (.str "a")) (wCons (wC (.str "b")) wNil)))) (wCons (eF (wLst (wCons (eF (wTup (wCons (wC (.int 1)) (wCons (eF (wLst (wCons (wC (.str "a")) wNil))) wNil)))) (wCons (eF (wTup (wCons (wC (.int 3)) (wCons (eF (wLst wNil)) wNil)))) (wCons (eF (wTup (wCons (wC (.int 5)) (wCons (eF (wLst (wCons (wC (.str "b")) wNil))) wNil)))) wNil))))) wNil)))) (ws_law_3_t4 ds_Sight_init a_Sight ds_Sight_eq ds_stretches ds_l_apart ds_l_local ds_l_least ds_l_stretches ds_l_seen ds_l_cup ds_l_wild ds_l_looks ds_l_hidden ds_l_crew ds_l_pump))
def ws_law_3_t2 (ds_Sight_init : DSp) (a_Sight : Addr) (ds_Sight_eq : DSp) (ds_stretches : DSp) (ds_l_apart : DSp) (ds_l_local : DSp) (ds_l_least : DSp) (ds_l_stretches : DSp) (ds_l_seen : DSp) (ds_l_cup : DSp) (ds_l_wild : DSp) (ds_l_looks : DSp) (ds_l_hidden : DSp) (ds_l_crew : DSp) (ds_l_pump : DSp) : WS :=
  (wSeq (wIf (wOr (wB (wBin (sEqX true) (fO (eF (wFn ds_stretches (wCons (wVar 11) (wCons (wC (.str "c")) wNil))))) (fO (eF (wLst (wCons (eF (wTup (wCons (wC (.int 2)) (wCons (wC (.int 3)) (wCons (wC (.str "b")) wNil))))) wNil)))))) (wB (wBin (sEqX true) (fO (eF (wFn ds_stretches (wCons (wVar 12) (wCons (wC (.str "c")) wNil))))) (fO (eF (wLst (wCons (eF (wTup (wCons (wC (.int 1)) (wCons (wC (.int 2)) (wCons (wC (.str "a")) wNil))))) (wCons (eF (wTup (wCons (wC (.int 1)) (wCons (wC (.int 2)) (wCons (wC (.str "b")) wNil))))) wNil)))))))) (wRet (fS (wC (.bl false)))) wNext) (ws_law_3_t3 ds_Sight_init a_Sight ds_Sight_eq ds_stretches ds_l_apart ds_l_local ds_l_least ds_l_stretches ds_l_seen ds_l_cup ds_l_wild ds_l_looks ds_l_hidden ds_l_crew ds_l_pump))
def ws_law_3_t1 (ds_Sight_init : DSp) (a_Sight : Addr) (ds_Sight_eq : DSp) (ds_stretches : DSp) (ds_l_apart : DSp) (ds_l_local : DSp) (ds_l_least : DSp) (ds_l_stretches : DSp) (ds_l_seen : DSp) (ds_l_cup : DSp) (ds_l_wild : DSp) (ds_l_looks : DSp) (ds_l_hidden : DSp) (ds_l_crew : DSp) (ds_l_pump : DSp) : WS :=
  (wSeq (wPar 11 12 (wTwo (wMake ds_Sight_init a_Sight 0 (wCons (eF (wLst (wCons (wC (.str "a")) (wCons (wC (.str "b")) (wCons (wC (.str "c")) wNil))))) (wCons (eF (wLst (wCons (eF (wTup (wCons (wC (.int 1)) (wCons (eF (wLst (wCons (wC (.str "a")) wNil))) wNil)))) (wCons (eF (wTup (wCons (wC (.int 2)) (wCons (eF (wLst (wCons (wC (.str "b")) wNil))) wNil)))) (wCons (eF (wTup (wCons (wC (.int 3)) (wCons (eF (wLst (wCons (wC (.str "c")) wNil))) wNil)))) wNil))))) wNil))) (wMake ds_Sight_init a_Sight 0 (wCons (eF (wLst (wCons (wC (.str "a")) (wCons (wC (.str "b")) (wCons (wC (.str "c")) wNil))))) (wCons (eF (wLst (wCons (eF (wTup (wCons (wC (.int 1)) (wCons (eF (wLst (wCons (wC (.str "a")) (wCons (wC (.str "b")) wNil)))) wNil)))) (wCons (eF (wTup (wCons (wC (.int 2)) (wCons (eF (wLst (wCons (wC (.str "c")) wNil))) wNil)))) wNil)))) wNil))))) (ws_law_3_t2 ds_Sight_init a_Sight ds_Sight_eq ds_stretches ds_l_apart ds_l_local ds_l_least ds_l_stretches ds_l_seen ds_l_cup ds_l_wild ds_l_looks ds_l_hidden ds_l_crew ds_l_pump))
def ws_law_3 (ds_Sight_init : DSp) (a_Sight : Addr) (ds_Sight_eq : DSp) (ds_stretches : DSp) (ds_l_apart : DSp) (ds_l_local : DSp) (ds_l_least : DSp) (ds_l_stretches : DSp) (ds_l_seen : DSp) (ds_l_cup : DSp) (ds_l_wild : DSp) (ds_l_looks : DSp) (ds_l_hidden : DSp) (ds_l_crew : DSp) (ds_l_pump : DSp) : WS :=
  (wSeq (wFor (wiRng1 (wCons (wC (.int 2)) wNil)) (wgN 1) (ws_law_3_b2 ds_Sight_init a_Sight ds_Sight_eq ds_stretches ds_l_apart ds_l_local ds_l_least ds_l_stretches ds_l_seen ds_l_cup ds_l_wild ds_l_looks ds_l_hidden ds_l_crew ds_l_pump)) (ws_law_3_t1 ds_Sight_init a_Sight ds_Sight_eq ds_stretches ds_l_apart ds_l_local ds_l_least ds_l_stretches ds_l_seen ds_l_cup ds_l_wild ds_l_looks ds_l_hidden ds_l_crew ds_l_pump))
abbrev N_law_3 : List Str := ["_law_script", "_law_at", "_law_pump_here", "_law_crew_here", "_law_looks_here", "_law_sight", "_law_seen_here", "_law_name", "_law_due", "_law_told", "_law_row", "_law_three", "_law_two", "_law_far"]
-- Sight.__iter__: not covered: KeyError('TypeError')
end Sp
namespace Lk10
open PySem L2 DL Sp
open PyProof.Rows (envOfC)
section
variable {P : Program} {w : World} {K : PySem.W.Frag} {mg : Str → Option Value} {base : Heap}
theorem sc_is_whole : FnScope N_is_whole ["value"] (defScope st_is_whole) := ⟨rfl, rfl, rfl, by decide +kernel, rfl, by decide +kernel, by decide +kernel⟩
theorem der_is_whole (n_isinstance : mg "isinstance" = none) (n_bool : mg "bool" = none) (n_int : mg "int" = none) {f : Addr} {cdv : Value} {A : Around} {outer : List Env} {s : Shared} {H : Hp} {E : XK} (C : Cz (Fam.one (cxOf (L2.CX P w) P w K mg base N_is_whole "is_whole" (defScope st_is_whole) f cdv A outer s H E)) (fun cls d _ H' => E cls d H') 0) :
    DSs (Fam.one (cxOf (L2.CX P w) P w K mg base N_is_whole "is_whole" (defScope st_is_whole) f cdv A outer s H E)) (fun cls d _ H' => E cls d H') (defBody st_is_whole) (ws_is_whole) :=
  (dss_one (ds_ret (de_and (de_isi "int" (ov 0) (by intro _; exact n_isinstance) (by intro _; exact n_int) (by decide +kernel)) (de_one (de_not (de_isi "bool" (ov 0) (by intro _; exact n_isinstance) (by intro _; exact n_bool) (by decide +kernel)))))))
theorem sc_is_name : FnScope N_is_name ["value"] (defScope st_is_name) := ⟨rfl, rfl, rfl, by decide +kernel, rfl, by decide +kernel, by decide +kernel⟩
theorem der_is_name (n_len : mg "len" = none) (n_isinstance : mg "isinstance" = none) (n_str : mg "str" = none) {t_LETTERS : Tok} (g_LETTERS : mg "LETTERS" = some (.str "abcdefghijklmnopqrstuvwxyz" t_LETTERS)) {f : Addr} {cdv : Value} {A : Around} {outer : List Env} {s : Shared} {H : Hp} {E : XK} (C : Cz (Fam.one (cxOf (L2.CX P w) P w K mg base N_is_name "is_name" (defScope st_is_name) f cdv A outer s H E)) (fun cls d _ H' => E cls d H') 0) :
    DSs (Fam.one (cxOf (L2.CX P w) P w K mg base N_is_name "is_name" (defScope st_is_name) f cdv A outer s H E)) (fun cls d _ H' => E cls d H') (defBody st_is_name) (ws_is_name) :=
  (dss_cons (ds_if (DW.t (dw_or (dt_not (dt_val (de_isi "str" (ov 0) (by intro _; exact n_isinstance) (by intro _; exact n_str) (by decide +kernel)))) (dw_or1 (dt_not (dt_chain bin_le bin_le (DF.o d_int) (DF.o (DE.f (de_callB cd_len (by intro _; rfl) (by intro _; exact n_len) (by decide +kernel) (ov 0)))) (DF.o d_int)))))) (dss_one (ds_ret (DF.s d_bl))) dss_nil)
      (dss_one (ds_ret (de_cmp (bin_eqX C.hu) (DF.o (DE.f (de_lc [("letter", 1)] C.calm C.nd (di_str (dv 0)) (by intro _; show BlkOk N_is_name (defScope st_is_name) _ _; exact ⟨rfl, by decide +kernel, by decide +kernel, by decide +kernel, by decide +kernel⟩) (dg_n 1 (C.blk _).nd) (dts_one (dt_cmp (bin_notin (C.blk _).hu) (ov 1) (DF.o (d_gstr (by intro _; rfl) (by intro _; exact g_LETTERS))) (by first | rfl | with_unfolding_all rfl))) (dv 1)))) (DF.o (DE.f (de_lst da_nil))) (by first | rfl | with_unfolding_all rfl)))))
theorem sc_are_names : FnScope N_are_names ["value"] (defScope st_are_names) := ⟨rfl, rfl, rfl, by decide +kernel, rfl, by decide +kernel, by decide +kernel⟩
theorem der_are_names {ds_is_name : DSp} (i_is_name : IsFn P w K mg base "is_name" 1 ["value"] ds_is_name) (n_isinstance : mg "isinstance" = none) (n_list : mg "list" = none) (n_len : mg "len" = none) (n_set : mg "set" = none) {f : Addr} {cdv : Value} {A : Around} {outer : List Env} {s : Shared} {H : Hp} {E : XK} (C : Cz (Fam.one (cxOf (L2.CX P w) P w K mg base N_are_names "are_names" (defScope st_are_names) f cdv A outer s H E)) (fun cls d _ H' => E cls d H') 1) :
    DSs (Fam.one (cxOf (L2.CX P w) P w K mg base N_are_names "are_names" (defScope st_are_names) f cdv A outer s H E)) (fun cls d _ H' => E cls d H') (defBody st_are_names) (ws_are_names ds_is_name) :=
  (dss_cons (ds_if (DW.t (dw_or (dt_not (dt_val (de_isi "list" (ov 0) (by intro _; exact n_isinstance) (by intro _; exact n_list) (by decide +kernel)))) (dw_or1 (dt_cmp (bin_neX C.hu) (DF.o (DE.f (de_lc [("name", 1)] C.calm C.nd (di_list (dv 0)) (by intro _; show BlkOk N_are_names (defScope st_are_names) _ _; exact ⟨rfl, by decide +kernel, by decide +kernel, by decide +kernel, by decide +kernel⟩) (dg_n 1 (C.blk _).nd) (dts_one (dt_not (dt_val (c_call (C.blk _) (by intro _; exact i_is_name) (da_cons (dv 1) da_nil))))) (dv 1)))) (DF.o (DE.f (de_lst da_nil))) (by first | rfl | with_unfolding_all rfl))))) (dss_one (ds_ret (DF.s d_bl))) dss_nil)
      (dss_one (ds_ret (de_cmp (bin_eqX C.hu) (DF.o (DE.f (de_lenW C.calm (by intro _; exact n_len) (by intro _; exact n_set) (ov 0)))) (DF.o (DE.f (de_callB cd_len (by intro _; rfl) (by intro _; exact n_len) (by decide +kernel) (ov 0)))) (by first | rfl | with_unfolding_all rfl)))))
theorem sc_check_name : FnScope N_check_name ["value"] (defScope st_check_name) := ⟨rfl, rfl, rfl, by decide +kernel, rfl, by decide +kernel, by decide +kernel⟩
theorem der_check_name {ds_is_name : DSp} {a_InvalidName : Addr} (i_is_name : IsFn P w K mg base "is_name" 1 ["value"] ds_is_name) (e_InvalidName : IsErr P K mg "InvalidName" "value" a_InvalidName) {f : Addr} {cdv : Value} {A : Around} {outer : List Env} {s : Shared} {H : Hp} {E : XK} (C : Cz (Fam.one (cxOf (L2.CX P w) P w K mg base N_check_name "check_name" (defScope st_check_name) f cdv A outer s H E)) (fun cls d _ H' => E cls d H') 1) :
    DSs (Fam.one (cxOf (L2.CX P w) P w K mg base N_check_name "check_name" (defScope st_check_name) f cdv A outer s H E)) (fun cls d _ H' => E cls d H') (defBody st_check_name) (ws_check_name ds_is_name a_InvalidName) :=
  (dss_one (ds_if (dt_not (dt_val (c_call C (by intro _; exact i_is_name) (da_cons (dv 0) da_nil)))) (dss_one (c_raise C (by intro _; exact e_InvalidName) (da_cons (dv 0) da_nil))) dss_nil))
theorem sc_check_whole : FnScope N_check_whole ["value"] (defScope st_check_whole) := ⟨rfl, rfl, rfl, by decide +kernel, rfl, by decide +kernel, by decide +kernel⟩
theorem der_check_whole {ds_is_whole : DSp} {a_InvalidNumber : Addr} (i_is_whole : IsFn P w K mg base "is_whole" 1 ["value"] ds_is_whole) (e_InvalidNumber : IsErr P K mg "InvalidNumber" "value" a_InvalidNumber) {f : Addr} {cdv : Value} {A : Around} {outer : List Env} {s : Shared} {H : Hp} {E : XK} (C : Cz (Fam.one (cxOf (L2.CX P w) P w K mg base N_check_whole "check_whole" (defScope st_check_whole) f cdv A outer s H E)) (fun cls d _ H' => E cls d H') 1) :
    DSs (Fam.one (cxOf (L2.CX P w) P w K mg base N_check_whole "check_whole" (defScope st_check_whole) f cdv A outer s H E)) (fun cls d _ H' => E cls d H') (defBody st_check_whole) (ws_check_whole ds_is_whole a_InvalidNumber) :=
  (dss_one (ds_if (dt_not (dt_val (c_call C (by intro _; exact i_is_whole) (da_cons (dv 0) da_nil)))) (dss_one (c_raise C (by intro _; exact e_InvalidNumber) (da_cons (dv 0) da_nil))) dss_nil))
theorem sc_is_tops : FnScope N_is_tops ["value", "players"] (defScope st_is_tops) := ⟨rfl, rfl, rfl, by decide +kernel, rfl, by decide +kernel, by decide +kernel⟩
theorem der_is_tops {ds_are_names : DSp} (i_are_names : IsFn P w K mg base "are_names" 2 ["value"] ds_are_names) {f : Addr} {cdv : Value} {A : Around} {outer : List Env} {s : Shared} {H : Hp} {E : XK} (C : Cz (Fam.one (cxOf (L2.CX P w) P w K mg base N_is_tops "is_tops" (defScope st_is_tops) f cdv A outer s H E)) (fun cls d _ H' => E cls d H') 2) :
    DSs (Fam.one (cxOf (L2.CX P w) P w K mg base N_is_tops "is_tops" (defScope st_is_tops) f cdv A outer s H E)) (fun cls d _ H' => E cls d H') (defBody st_is_tops) (ws_is_tops ds_are_names) :=
  (dss_one (ds_ret (de_and (c_call C (by intro _; exact i_are_names) (da_cons (dv 0) da_nil)) (de_one (de_cmp (bin_eqX C.hu) (DF.o (DE.f (de_lc [("name", 2)] C.calm C.nd (di_list (dv 0)) (by intro _; show BlkOk N_is_tops (defScope st_is_tops) _ _; exact ⟨rfl, by decide +kernel, by decide +kernel, by decide +kernel, by decide +kernel⟩) (dg_n 2 (C.blk _).nd) (dts_one (dt_cmp (bin_notin (C.blk _).hu) (ov 2) (ov 1) (by first | rfl | with_unfolding_all rfl))) (dv 2)))) (DF.o (DE.f (de_lst da_nil))) (by first | rfl | with_unfolding_all rfl))))))
theorem sc_are_players : FnScope N_are_players ["value"] (defScope st_are_players) := ⟨rfl, rfl, rfl, by decide +kernel, rfl, by decide +kernel, by decide +kernel⟩
theorem der_are_players {ds_are_names : DSp} (i_are_names : IsFn P w K mg base "are_names" 2 ["value"] ds_are_names) {f : Addr} {cdv : Value} {A : Around} {outer : List Env} {s : Shared} {H : Hp} {E : XK} (C : Cz (Fam.one (cxOf (L2.CX P w) P w K mg base N_are_players "are_players" (defScope st_are_players) f cdv A outer s H E)) (fun cls d _ H' => E cls d H') 2) :
    DSs (Fam.one (cxOf (L2.CX P w) P w K mg base N_are_players "are_players" (defScope st_are_players) f cdv A outer s H E)) (fun cls d _ H' => E cls d H') (defBody st_are_players) (ws_are_players ds_are_names) :=
  (dss_one (ds_ret (de_and (c_call C (by intro _; exact i_are_names) (da_cons (dv 0) da_nil)) (de_one (de_cmp (bin_neX C.hu) (ov 0) (DF.o (DE.f (de_lst da_nil))) (by first | rfl | with_unfolding_all rfl))))))
theorem sc_is_look : FnScope N_is_look ["value", "players"] (defScope st_is_look) := ⟨rfl, rfl, rfl, by decide +kernel, rfl, by decide +kernel, by decide +kernel⟩
theorem der_is_look {ds_is_tops : DSp} {ds_is_whole : DSp} (i_is_tops : IsFn P w K mg base "is_tops" 3 ["value", "players"] ds_is_tops) (i_is_whole : IsFn P w K mg base "is_whole" 1 ["value"] ds_is_whole) (n_len : mg "len" = none) (n_isinstance : mg "isinstance" = none) (n_tuple : mg "tuple" = none) {f : Addr} {cdv : Value} {A : Around} {outer : List Env} {s : Shared} {H : Hp} {E : XK} (C : Cz (Fam.one (cxOf (L2.CX P w) P w K mg base N_is_look "is_look" (defScope st_is_look) f cdv A outer s H E)) (fun cls d _ H' => E cls d H') 3) :
    DSs (Fam.one (cxOf (L2.CX P w) P w K mg base N_is_look "is_look" (defScope st_is_look) f cdv A outer s H E)) (fun cls d _ H' => E cls d H') (defBody st_is_look) (ws_is_look ds_is_tops ds_is_whole) :=
  (dss_one (ds_ret (de_and (de_isi "tuple" (ov 0) (by intro _; exact n_isinstance) (by intro _; exact n_tuple) (by decide +kernel)) (de_and (de_cmp (bin_eqX C.hu) (DF.o (DE.f (de_callB cd_len (by intro _; rfl) (by intro _; exact n_len) (by decide +kernel) (ov 0)))) (DF.o d_int) (by first | rfl | with_unfolding_all rfl)) (de_and (c_call C (by intro _; exact i_is_whole) (da_cons (DE.f (de_ix ix_d (ov 0) (DF.o d_int) (by intro _ _; rfl))) da_nil)) (de_one (c_call C (by intro _; exact i_is_tops) (da_cons (DE.f (de_ix ix_d (ov 0) (DF.o d_int) (by intro _ _; rfl))) (da_cons (dv 1) da_nil)))))))))
theorem sc_go_together : FnScope N_go_together ["one", "other"] (defScope st_go_together) := ⟨rfl, rfl, rfl, by decide +kernel, rfl, by decide +kernel, by decide +kernel⟩
theorem der_go_together (n_len : mg "len" = none) {f : Addr} {cdv : Value} {A : Around} {outer : List Env} {s : Shared} {H : Hp} {E : XK} (C : Cz (Fam.one (cxOf (L2.CX P w) P w K mg base N_go_together "go_together" (defScope st_go_together) f cdv A outer s H E)) (fun cls d _ H' => E cls d H') 0) :
    DSs (Fam.one (cxOf (L2.CX P w) P w K mg base N_go_together "go_together" (defScope st_go_together) f cdv A outer s H E)) (fun cls d _ H' => E cls d H') (defBody st_go_together) (ws_go_together) :=
  (dss_one (ds_ret (de_cmp (bin_eqX C.hu) (DF.o (DE.f (de_cut (ov 0) dp_none (dp_some (DE.f (de_callB cd_len (by intro _; rfl) (by intro _; exact n_len) (by decide +kernel) (ov 1))))))) (DF.o (DE.f (de_cut (ov 1) dp_none (dp_some (DE.f (de_callB cd_len (by intro _; rfl) (by intro _; exact n_len) (by decide +kernel) (ov 0))))))) (by first | rfl | with_unfolding_all rfl))))
theorem sc_seen_in : FnScope N_seen_in ["players", "looks"] (defScope st_seen_in) := ⟨rfl, rfl, rfl, by decide +kernel, rfl, by decide +kernel, by decide +kernel⟩
theorem der_seen_in {ds_go_together : DSp} {a_InvalidLook : Addr} {ds_is_look : DSp} (n_max : mg "max" = none) (n_len : mg "len" = none) (n_list : mg "list" = none) (i_go_together : IsFn P w K mg base "go_together" 1 ["one", "other"] ds_go_together) (e_InvalidLook : IsErr P K mg "InvalidLook" "value" a_InvalidLook) (i_is_look : IsFn P w K mg base "is_look" 4 ["value", "players"] ds_is_look) {f : Addr} {cdv : Value} {A : Around} {outer : List Env} {s : Shared} {H : Hp} {E : XK} (C : Cz (Fam.one (cxOf (L2.CX P w) P w K mg base N_seen_in "seen_in" (defScope st_seen_in) f cdv A outer s H E)) (fun cls d _ H' => E cls d H') 4) :
    DSs (Fam.one (cxOf (L2.CX P w) P w K mg base N_seen_in "seen_in" (defScope st_seen_in) f cdv A outer s H E)) (fun cls d _ H' => E cls d H') (defBody st_seen_in) (ws_seen_in ds_go_together a_InvalidLook ds_is_look) :=
  (dss_cons (ds_set 2 de_newD C.nd)
      (dss_cons (ds_for C.hp C.calm (di_list (dv 1)) (dg_n 3 C.nd) (dss_cons (ds_if (dt_not (dt_val (c_call C (by intro _; exact i_is_look) (da_cons (dv 3) (da_cons (dv 0) da_nil))))) (dss_one (c_raise C (by intro _; exact e_InvalidLook) (da_cons (dv 3) da_nil))) dss_nil)
      (dss_cons (ds_un (dv 3) (dg_tup (n := 2) (dgs_cons (dg_n 4 C.nd) (dgs_cons (dg_n 5 C.nd) dgs_nil)) C.calm))
      (dss_cons (ds_set 6 (de_get2 C.hu (ov 2) (ov 4) (DE.f (de_lst da_nil))) C.nd)
      (dss_cons (ds_if (dt_not (dt_val (c_call C (by intro _; exact i_go_together) (da_cons (dv 6) (da_cons (dv 5) da_nil))))) (dss_one (c_raise C (by intro _; exact e_InvalidLook) (da_cons (dv 3) da_nil))) dss_nil)
      (dss_one (ds_putD 2 C.hu (dv 4) (DE.f (de_callTy cd_list (by intro _; rfl) (by intro _; exact n_list) (by decide +kernel) (DF.o (DE.f (de_maxLen C.calm (by intro _; exact n_max) (by intro _; exact n_len) (da_cons (dv 6) (da_cons (dv 5) da_nil))))))))))))))
      (dss_one (ds_ret (DF.s (dv 2))))))
theorem sc_known_above : FnScope N_known_above ["tops", "one", "other"] (defScope st_known_above) := ⟨rfl, rfl, rfl, by decide +kernel, rfl, by decide +kernel, by decide +kernel⟩
theorem der_known_above  {f : Addr} {cdv : Value} {A : Around} {outer : List Env} {s : Shared} {H : Hp} {E : XK} (C : Cz (Fam.one (cxOf (L2.CX P w) P w K mg base N_known_above "known_above" (defScope st_known_above) f cdv A outer s H E)) (fun cls d _ H' => E cls d H') 0) :
    DSs (Fam.one (cxOf (L2.CX P w) P w K mg base N_known_above "known_above" (defScope st_known_above) f cdv A outer s H E)) (fun cls d _ H' => E cls d H') (defBody st_known_above) (ws_known_above) :=
  (dss_cons (ds_if (DW.t (dw_and (dt_cmp (bin_in C.hu) (ov 1) (ov 0) (by first | rfl | with_unfolding_all rfl)) (dw_and1 (dt_cmp (bin_in C.hu) (ov 2) (ov 0) (by first | rfl | with_unfolding_all rfl))))) (dss_one (ds_ret (de_cmp bin_lt (DF.o (DE.f (de_indexM (ov 0) (ov 1)))) (DF.o (DE.f (de_indexM (ov 0) (ov 2)))) (by first | rfl | with_unfolding_all rfl)))) dss_nil)
      (dss_cons (ds_if (dt_cmp (bin_in C.hu) (ov 1) (ov 0) (by first | rfl | with_unfolding_all rfl)) (dss_one (ds_ret (DF.s d_bl))) dss_nil)
      (dss_one (ds_ret (de_if (dt_cmp (bin_in C.hu) (ov 2) (ov 0) (by first | rfl | with_unfolding_all rfl)) (DF.s d_bl) (DF.s d_non))))))
theorem sc_check_sight : FnScope N_check_sight ["value"] (defScope st_check_sight) := ⟨rfl, rfl, rfl, by decide +kernel, rfl, by decide +kernel, by decide +kernel⟩
theorem der_check_sight {a_Sight : Addr} {a_InvalidSight : Addr} (m_Sight : mg "Sight" = some (.ref a_Sight)) (isi_Sight : IsiC K a_Sight) (n_isinstance : mg "isinstance" = none) (e_InvalidSight : IsErr P K mg "InvalidSight" "value" a_InvalidSight) {f : Addr} {cdv : Value} {A : Around} {outer : List Env} {s : Shared} {H : Hp} {E : XK} (C : Cz (Fam.one (cxOf (L2.CX P w) P w K mg base N_check_sight "check_sight" (defScope st_check_sight) f cdv A outer s H E)) (fun cls d _ H' => E cls d H') 0) :
    DSs (Fam.one (cxOf (L2.CX P w) P w K mg base N_check_sight "check_sight" (defScope st_check_sight) f cdv A outer s H E)) (fun cls d _ H' => E cls d H') (defBody st_check_sight) (ws_check_sight a_Sight a_InvalidSight K) :=
  (dss_one (ds_if (dt_not (dt_val (de_isiC isi_Sight (ov 0) (by intro _; exact n_isinstance) (by intro _; exact m_Sight)))) (dss_one (c_raise C (by intro _; exact e_InvalidSight) (da_cons (dv 0) da_nil))) dss_nil))
theorem sc_check_player : FnScope N_check_player ["sight", "value"] (defScope st_check_player) := ⟨rfl, rfl, rfl, by decide +kernel, rfl, by decide +kernel, by decide +kernel⟩
theorem der_check_player {ds_check_name : DSp} {a_Sight : Addr} {a_Unknown : Addr} (i_check_name : IsFn P w K mg base "check_name" 2 ["value"] ds_check_name) (c_Sight : Cls K a_Sight) (na_Sight_crew : NoAttr K a_Sight "crew") (e_Unknown : IsErr P K mg "Unknown" "which" a_Unknown) {f : Addr} {cdv : Value} {A : Around} {outer : List Env} {s : Shared} {H : Hp} {E : XK} (C : Cz (Fam.one (cxOf (L2.CX P w) P w K mg base N_check_player "check_player" (defScope st_check_player) f cdv A outer s H E)) (fun cls d _ H' => E cls d H') 2) :
    DSs (Fam.one (cxOf (L2.CX P w) P w K mg base N_check_player "check_player" (defScope st_check_player) f cdv A outer s H E)) (fun cls d _ H' => E cls d H') (defBody st_check_player) (ws_check_player ds_check_name a_Sight a_Unknown) :=
  (dss_cons (ds_expr (c_call C (by intro _; exact i_check_name) (da_cons (dv 1) da_nil)))
      (dss_one (ds_if (dt_cmp (bin_notin C.hu) (ov 1) (DF.o (DE.f (de_fld c_Sight na_Sight_crew (ov 0)))) (by first | rfl | with_unfolding_all rfl)) (dss_one (c_raise C (by intro _; exact e_Unknown) (da_cons (dv 1) da_nil))) dss_nil)))
theorem sc_steps_of : FnScope N_steps_of ["sight"] (defScope st_steps_of) := ⟨rfl, rfl, rfl, by decide +kernel, rfl, by decide +kernel, by decide +kernel⟩
theorem der_steps_of {ds_Sight_moments : DSp} {a_Sight : Addr} (me_Sight_moments : IsMeth P w K mg base a_Sight "moments" 1 ["self"] 0 ds_Sight_moments) {f : Addr} {cdv : Value} {A : Around} {outer : List Env} {s : Shared} {H : Hp} {E : XK} (C : Cz (Fam.one (cxOf (L2.CX P w) P w K mg base N_steps_of "steps_of" (defScope st_steps_of) f cdv A outer s H E)) (fun cls d _ H' => E cls d H') 1) :
    DSs (Fam.one (cxOf (L2.CX P w) P w K mg base N_steps_of "steps_of" (defScope st_steps_of) f cdv A outer s H E)) (fun cls d _ H' => E cls d H') (defBody st_steps_of) (ws_steps_of ds_Sight_moments a_Sight) :=
  (dss_one (ds_ret (de_cut (DF.o (DE.f (c_meth0 C 0 (by intro _; exact me_Sight_moments) (dv 0)))) (dp_some d_int) dp_none)))
theorem sc_begins_before : FnScope N_begins_before ["sight", "player", "end"] (defScope st_begins_before) := ⟨rfl, rfl, rfl, by decide +kernel, rfl, by decide +kernel, by decide +kernel⟩
theorem der_begins_before {ds_Sight_players : DSp} {a_Sight : Addr} {ds_known_above : DSp} {ds_Sight_tops : DSp} {ds_Sight_moments : DSp} (me_Sight_players : IsMeth P w K mg base a_Sight "players" 1 ["self"] 0 ds_Sight_players) (i_known_above : IsFn P w K mg base "known_above" 1 ["tops", "one", "other"] ds_known_above) (me_Sight_tops : IsMeth P w K mg base a_Sight "tops" 4 ["self", "moment"] 0 ds_Sight_tops) (me_Sight_moments : IsMeth P w K mg base a_Sight "moments" 1 ["self"] 0 ds_Sight_moments) {f : Addr} {cdv : Value} {A : Around} {outer : List Env} {s : Shared} {H : Hp} {E : XK} (C : Cz (Fam.one (cxOf (L2.CX P w) P w K mg base N_begins_before "begins_before" (defScope st_begins_before) f cdv A outer s H E)) (fun cls d _ H' => E cls d H') 4) :
    DSs (Fam.one (cxOf (L2.CX P w) P w K mg base N_begins_before "begins_before" (defScope st_begins_before) f cdv A outer s H E)) (fun cls d _ H' => E cls d H') (defBody st_begins_before) (ws_begins_before ds_Sight_players a_Sight ds_known_above ds_Sight_tops ds_Sight_moments) :=
  (dss_cons (ds_setLc 3 [("name", 4)] C.calm C.nd (di_list (DE.f (c_meth0 C 0 (by intro _; exact me_Sight_players) (dv 0)))) (by intro _; show BlkOk N_begins_before (defScope st_begins_before) _ _; exact ⟨rfl, by decide +kernel, by decide +kernel, by decide +kernel, by decide +kernel⟩) (dg_n 4 (C.blk _).nd) (dts_one (DW.t (dw_and (dt_cmp (bin_neX (C.blk _).hu) (ov 4) (ov 1) (by first | rfl | with_unfolding_all rfl)) (dw_and1 (dt_valN (c_call (C.blk _) (by intro _; exact i_known_above) (da_cons (DE.f (c_meth (C.blk _) 0 (by intro _; exact me_Sight_tops) (dv 0) (da_cons (dv 2) da_nil))) (da_cons (dv 1) (da_cons (dv 4) da_nil))))))))) (dv 4))
      (dss_cons (ds_setLc 5 [("moment", 6)] C.calm C.nd (di_list (DE.f (c_meth0 C 0 (by intro _; exact me_Sight_moments) (dv 0)))) (by intro _; show BlkOk N_begins_before (defScope st_begins_before) _ _; exact ⟨rfl, by decide +kernel, by decide +kernel, by decide +kernel, by decide +kernel⟩) (dg_n 6 (C.blk _).nd) (dts_one (dt_cmp bin_lt (ov 6) (ov 2) (by first | rfl | with_unfolding_all rfl))) (dv 6))
      (dss_cons (ds_for C.hp C.calm (di_list (DE.f (de_rev (ov 5)))) (dg_n 7 C.nd) (dss_cons (ds_set 8 (c_meth C 0 (by intro _; exact me_Sight_tops) (dv 0) (da_cons (dv 7) da_nil)) C.nd)
      (dss_cons (ds_setLc 9 [("name", 4)] C.calm C.nd (di_list (dv 3)) (by intro _; show BlkOk N_begins_before (defScope st_begins_before) _ _; exact ⟨rfl, by decide +kernel, by decide +kernel, by decide +kernel, by decide +kernel⟩) (dg_n 4 (C.blk _).nd) (dts_one (dt_valN (c_call (C.blk _) (by intro _; exact i_known_above) (da_cons (dv 8) (da_cons (dv 4) (da_cons (dv 1) da_nil)))))) (dv 4))
      (dss_one (ds_if (dt_cmp (bin_neX C.hu) (ov 9) (DF.o (DE.f (de_lst da_nil))) (by first | rfl | with_unfolding_all rfl)) (dss_one (ds_ret (de_tup (da_cons (dv 7) (da_cons (dv 9) da_nil))))) dss_nil)))))
      (dss_one (ds_ret (de_tup (da_cons d_non (da_cons (DE.f (de_lst da_nil)) da_nil))))))))
theorem sc_least_of_2 : FnScope N_least_of_2 ["sight", "player"] (defScope st_least_of_2) := ⟨rfl, rfl, rfl, by decide +kernel, rfl, by decide +kernel, by decide +kernel⟩
theorem der_least_of_2 {ds_steps_of : DSp} {ds_begins_before : DSp} (i_steps_of : IsFn P w K mg base "steps_of" 2 ["sight"] ds_steps_of) (n_sorted : mg "sorted" = none) (i_begins_before : IsFn P w K mg base "begins_before" 5 ["sight", "player", "end"] ds_begins_before) {f : Addr} {cdv : Value} {A : Around} {outer : List Env} {s : Shared} {H : Hp} {E : XK} (C : Cz (Fam.one (cxOf (L2.CX P w) P w K mg base N_least_of_2 "least_of" (defScope st_least_of_2) f cdv A outer s H E)) (fun cls d _ H' => E cls d H') 5) :
    DSs (Fam.one (cxOf (L2.CX P w) P w K mg base N_least_of_2 "least_of" (defScope st_least_of_2) f cdv A outer s H E)) (fun cls d _ H' => E cls d H') (defBody st_least_of_2) (ws_least_of_2 ds_steps_of ds_begins_before) :=
  (dss_cons (ds_set 2 (de_lst da_nil) C.nd)
      (dss_cons (ds_set 3 (DF.s d_non) C.nd)
      (dss_cons (ds_for C.hp C.calm (di_list (DE.f (c_call C (by intro _; exact i_steps_of) (da_cons (dv 0) da_nil)))) (dg_n 4 C.nd) (dss_cons (ds_un (DE.f (c_call C (by intro _; exact i_begins_before) (da_cons (dv 0) (da_cons (dv 1) (da_cons (dv 4) da_nil))))) (dg_tup (n := 2) (dgs_cons (dg_n 5 C.nd) (dgs_cons (dg_n 6 C.nd) dgs_nil)) C.calm))
      (dss_one (ds_if (DW.t (dw_and (dt_isN1 (ov 5)) (dw_and1 (DW.t (dw_or (dt_isN0 (ov 3)) (dw_or1 (dt_cmp bin_gt (ov 5) (ov 3) (by first | rfl | with_unfolding_all rfl)))))))) (dss_cons (ds_set 2 (de_bin bin_add (ov 2) (DF.o (DE.f (de_lc [("other", 7)] C.calm C.nd (di_list (DE.f (de_callB (cd_sorted C.hu) (by intro _; rfl) (by intro _; exact n_sorted) (by decide +kernel) (ov 6)))) (by intro _; show BlkOk N_least_of_2 (defScope st_least_of_2) _ _; exact ⟨rfl, by decide +kernel, by decide +kernel, by decide +kernel, by decide +kernel⟩) (dg_n 7 (C.blk _).nd) dts_nil (DE.f (de_tup (da_cons (dv 5) (da_cons (dv 4) (da_cons (dv 7) da_nil))))))))) C.nd)
      (dss_one (ds_set 3 (DF.s (dv 5)) C.nd))) dss_nil))))
      (dss_one (ds_retO 2)))))
theorem sc_stretches : FnScope N_stretches ["sight", "player"] (defScope st_stretches) := ⟨rfl, rfl, rfl, by decide +kernel, rfl, by decide +kernel, by decide +kernel⟩
theorem der_stretches {ds_check_sight : DSp} {ds_check_player : DSp} {ds_least_of_2 : DSp} (i_check_sight : IsFn P w K mg base "check_sight" 1 ["value"] ds_check_sight) (i_check_player : IsFn P w K mg base "check_player" 3 ["sight", "value"] ds_check_player) (i_least_of_2 : IsFn P w K mg base "least_of" 6 ["sight", "player"] ds_least_of_2) {f : Addr} {cdv : Value} {A : Around} {outer : List Env} {s : Shared} {H : Hp} {E : XK} (C : Cz (Fam.one (cxOf (L2.CX P w) P w K mg base N_stretches "stretches" (defScope st_stretches) f cdv A outer s H E)) (fun cls d _ H' => E cls d H') 6) :
    DSs (Fam.one (cxOf (L2.CX P w) P w K mg base N_stretches "stretches" (defScope st_stretches) f cdv A outer s H E)) (fun cls d _ H' => E cls d H') (defBody st_stretches) (ws_stretches ds_check_sight ds_check_player ds_least_of_2) :=
  (dss_cons (ds_expr (c_call C (by intro _; exact i_check_sight) (da_cons (dv 0) da_nil)))
      (dss_cons (ds_expr (c_call C (by intro _; exact i_check_player) (da_cons (dv 0) (da_cons (dv 1) da_nil))))
      (dss_one (ds_ret (c_call C (by intro _; exact i_least_of_2) (da_cons (dv 0) (da_cons (dv 1) da_nil)))))))
theorem sc_l_pump : FnScope N_l_pump ["_law_script", "_law_at"] (defScope st_l_pump) := ⟨rfl, rfl, rfl, by decide +kernel, rfl, by decide +kernel, by decide +kernel⟩
theorem der_l_pump (n_len : mg "len" = none) (n_int : mg "int" = none) (n_range : mg "range" = none) {f : Addr} {cdv : Value} {A : Around} {outer : List Env} {s : Shared} {H : Hp} {E : XK} (C : Cz (Fam.one (cxOf (L2.CX P w) P w K mg base N_l_pump "_law_pump" (defScope st_l_pump) f cdv A outer s H E)) (fun cls d _ H' => E cls d H') 0) :
    DSs (Fam.one (cxOf (L2.CX P w) P w K mg base N_l_pump "_law_pump" (defScope st_l_pump) f cdv A outer s H E)) (fun cls d _ H' => E cls d H') (defBody st_l_pump) (ws_l_pump) :=
  (dss_cons (ds_set 2 (de_bin bin_add (DF.o (DE.f (de_bin bin_mul (DF.o d_int) (ov 1)))) (DF.o d_int)) C.nd)
      (dss_cons (ds_if (dt_cmp bin_lt (ov 1) (DF.o (DE.f (de_callB cd_len (by intro _; rfl) (by intro _; exact n_len) (by decide +kernel) (ov 0)))) (by first | rfl | with_unfolding_all rfl)) (dss_one (ds_set 2 (de_ix ix_d (ov 0) (ov 1) (by intro _ _; rfl)) C.nd)) dss_nil)
      (dss_cons (ds_if (dt_cmp bin_ge (ov 2) (DF.o (DE.f (de_bin bin_pow (DF.o d_int) (DF.o d_int)))) (by first | rfl | with_unfolding_all rfl)) (dss_cons (ds_set 3 (de_bin bin_mul (DF.o (DE.f (de_bin bin_mul (DF.o (DE.f (de_bin bin_mul (DF.o (DE.f (de_bin bin_pow (DF.o d_int) (DF.o d_int)))) (DF.o (DE.f (de_bin bin_pow (DF.o d_int) (DF.o d_int))))))) (DF.o (DE.f (de_bin bin_pow (DF.o d_int) (DF.o d_int))))))) (DF.o (DE.f (de_bin bin_pow (DF.o d_int) (DF.o d_int))))) C.nd)
      (dss_one (ds_ret (de_lst (da_cons (DE.f (de_bin bin_mod (DF.o (DE.f (de_callTy cd_int (by intro _; rfl) (by intro _; exact n_int) (by decide +kernel) (DF.o (DE.f (de_bin bin_sub (ov 2) (DF.o (DE.f (de_bin bin_pow (DF.o d_int) (DF.o d_int)))))))))) (DF.o (DE.f (de_bin bin_mul (DF.o (DE.f (de_bin bin_mul (ov 3) (ov 3)))) (ov 3)))))) da_nil))))) dss_nil)
      (dss_cons (ds_par 4 5 C.calm C.nd (de_bin bin_mod (DF.o (DE.f (de_callTy cd_int (by intro _; rfl) (by intro _; exact n_int) (by decide +kernel) (DF.o (DE.f (de_bin bin_add (ov 2) (DF.o (DE.f (de_bin bin_mul (DF.o d_int) (ov 1)))))))))) (DF.o d_int)) (de_bin bin_mod (DF.o (DE.f (de_callTy cd_int (by intro _; rfl) (by intro _; exact n_int) (by decide +kernel) (ov 2)))) (DF.o d_int)) (by intro _; first | rfl | with_unfolding_all rfl | kernel_rfl))
      (dss_cons (ds_set 6 (DF.s d_int) C.nd)
      (dss_cons (ds_for C.hp C.calm (di_rng1 (da_cons d_int da_nil) (by intro _; exact n_range)) (dg_n 7 C.nd) (dss_cons (ds_set 4 (de_bin bin_mod (DF.o (DE.f (de_callTy cd_int (by intro _; rfl) (by intro _; exact n_int) (by decide +kernel) (DF.o (DE.f (de_bin bin_add (DF.o (DE.f (de_bin bin_add (DF.o (DE.f (de_bin bin_add (DF.o (DE.f (de_bin bin_mul (ov 4) (DF.o d_int)))) (DF.o (DE.f (de_bin bin_mul (ov 7) (DF.o d_int))))))) (DF.o (DE.f (de_bin bin_mul (DF.o d_int) (ov 1))))))) (DF.o d_int))))))) (DF.o d_int)) C.nd)
      (dss_cons (ds_set 5 (de_bin bin_mod (DF.o (DE.f (de_callTy cd_int (by intro _; rfl) (by intro _; exact n_int) (by decide +kernel) (DF.o (DE.f (de_bin bin_add (DF.o (DE.f (de_bin bin_add (DF.o (DE.f (de_bin bin_mul (ov 5) (ov 5)))) (DF.o (DE.f (de_bin bin_mul (DF.o d_int) (ov 7))))))) (DF.o d_int))))))) (DF.o d_int)) C.nd)
      (dss_one (ds_set 6 (de_bin bin_add (DF.o (DE.f (de_bin bin_mul (ov 6) (DF.o d_int)))) (DF.o (DE.f (de_bin bin_mod (DF.o (DE.f (de_callTy cd_int (by intro _; rfl) (by intro _; exact n_int) (by decide +kernel) (DF.o (DE.f (de_bin bin_add (DF.o (DE.f (de_bin bin_mul (ov 4) (ov 5)))) (DF.o (DE.f (de_bin bin_mul (DF.o d_int) (ov 7)))))))))) (DF.o d_int))))) C.nd)))))
      (dss_one (ds_ret (de_lst (da_cons (dv 6) da_nil))))))))))
theorem sc_l_cup : FnScope N_l_cup ["_law_pump_here", "_law_many"] (defScope st_l_cup) := ⟨rfl, rfl, rfl, by decide +kernel, rfl, by decide +kernel, by decide +kernel⟩
theorem der_l_cup (n_int : mg "int" = none) {f : Addr} {cdv : Value} {A : Around} {outer : List Env} {s : Shared} {H : Hp} {E : XK} (C : Cz (Fam.one (cxOf (L2.CX P w) P w K mg base N_l_cup "_law_cup" (defScope st_l_cup) f cdv A outer s H E)) (fun cls d _ H' => E cls d H') 0) :
    DSs (Fam.one (cxOf (L2.CX P w) P w K mg base N_l_cup "_law_cup" (defScope st_l_cup) f cdv A outer s H E)) (fun cls d _ H' => E cls d H') (defBody st_l_cup) (ws_l_cup) :=
  (dss_cons (ds_set 2 (de_bin bin_mod (DF.o (DE.f (de_callTy cd_int (by intro _; rfl) (by intro _; exact n_int) (by decide +kernel) (DF.o (DE.f (de_ix ix_d (ov 0) (DF.o d_int) (by intro _ _; rfl))))))) (ov 1)) C.nd)
      (dss_cons (ds_put 0 (DE.f (de_bin bin_div (DF.o (DE.f (de_ix ix_d (ov 0) (DF.o d_int) (by intro _ _; rfl)))) (ov 1))) d_int)
      (dss_one (ds_ret (DF.s (dv 2))))))
theorem sc_l_crew : FnScope N_l_crew ["_law_pump_here", "_law_many"] (defScope st_l_crew) := ⟨rfl, rfl, rfl, by decide +kernel, rfl, by decide +kernel, by decide +kernel⟩
theorem der_l_crew {ds_l_cup : DSp} (n_range : mg "range" = none) (i_l_cup : IsFn P w K mg base "_law_cup" 1 ["_law_pump_here", "_law_many"] ds_l_cup) {f : Addr} {cdv : Value} {A : Around} {outer : List Env} {s : Shared} {H : Hp} {E : XK} (C : Cz (Fam.one (cxOf (L2.CX P w) P w K mg base N_l_crew "_law_crew" (defScope st_l_crew) f cdv A outer s H E)) (fun cls d _ H' => E cls d H') 1) :
    DSs (Fam.one (cxOf (L2.CX P w) P w K mg base N_l_crew "_law_crew" (defScope st_l_crew) f cdv A outer s H E)) (fun cls d _ H' => E cls d H') (defBody st_l_crew) (ws_l_crew ds_l_cup) :=
  (dss_cons (ds_parT 2 3 C.calm C.nd (DF.s d_str) (de_lst da_nil))
      (dss_cons (ds_for C.hp C.calm (di_rng1 (da_cons (dv 1) da_nil) (by intro _; exact n_range)) (dg_n 4 C.nd) (dss_cons (ds_set 5 (de_ix ix_d (DF.o (DE.f (de_lst (da_cons d_int (da_cons d_int (da_cons d_int (da_cons d_int (da_cons d_int (da_cons d_int (da_cons d_int (da_cons d_int (da_cons d_int da_nil)))))))))))) (DF.o (DE.f (c_callP C (by intro _; exact i_l_cup) 0 (da_cons d_int da_nil)))) (by intro _ _; rfl)) C.nd)
      (dss_cons (ds_set 6 (de_joinM (DF.o d_str) (DF.o (DE.f (de_lc [("_law_k", 7)] C.calm C.nd (di_rng1 (da_cons (dv 5) da_nil) (by intro _; exact n_range)) (by intro _; show BlkOk N_l_crew (defScope st_l_crew) _ _; exact ⟨rfl, by decide +kernel, by decide +kernel, by decide +kernel, by decide +kernel⟩) (dg_n 7 (C.blk _).nd) dts_nil (DE.f (de_ix ix_d (ov 2) (DF.o (DE.f (c_callP (C.blk _) (by intro _; exact i_l_cup) 0 (da_cons d_int da_nil)))) (by intro _ _; rfl))))))) C.nd)
      (dss_cons (ds_if (dt_cmp (bin_in C.hu) (ov 6) (ov 3) (by first | rfl | with_unfolding_all rfl)) (dss_one (ds_set 6 (de_ix ix_d (DF.o (DE.f (de_lc [("_law_one", 8)] C.calm C.nd (di_list (DE.f (de_lc [("_law_letter", 9)] C.calm C.nd (di_str (dv 2)) (by intro _; show BlkOk N_l_crew (defScope st_l_crew) _ _; exact ⟨rfl, by decide +kernel, by decide +kernel, by decide +kernel, by decide +kernel⟩) (dg_n 9 (C.blk _).nd) dts_nil (DE.f (de_bin bin_add (DF.o d_str) (ov 9)))))) (by intro _; show BlkOk N_l_crew (defScope st_l_crew) _ _; exact ⟨rfl, by decide +kernel, by decide +kernel, by decide +kernel, by decide +kernel⟩) (dg_n 8 (C.blk _).nd) (dts_one (dt_cmp (bin_notin (C.blk _).hu) (ov 8) (ov 3) (by first | rfl | with_unfolding_all rfl))) (dv 8)))) (DF.o d_int) (by intro _ _; rfl)) C.nd)) dss_nil)
      (dss_one (ds_expr (de_app 3 (dv 6))))))))
      (dss_one (ds_ret (DF.s (dv 3))))))
theorem sc_l_mixed : FnScope N_l_mixed ["_law_pump_here", "_law_rows"] (defScope st_l_mixed) := ⟨rfl, rfl, rfl, by decide +kernel, rfl, by decide +kernel, by decide +kernel⟩
theorem der_l_mixed {ds_l_cup : DSp} (i_l_cup : IsFn P w K mg base "_law_cup" 1 ["_law_pump_here", "_law_many"] ds_l_cup) (n_len : mg "len" = none) {f : Addr} {cdv : Value} {A : Around} {outer : List Env} {s : Shared} {H : Hp} {E : XK} (C : Cz (Fam.one (cxOf (L2.CX P w) P w K mg base N_l_mixed "_law_mixed" (defScope st_l_mixed) f cdv A outer s H E)) (fun cls d _ H' => E cls d H') 1) :
    DSs (Fam.one (cxOf (L2.CX P w) P w K mg base N_l_mixed "_law_mixed" (defScope st_l_mixed) f cdv A outer s H E)) (fun cls d _ H' => E cls d H') (defBody st_l_mixed) (ws_l_mixed ds_l_cup) :=
  (dss_cons (ds_set 2 (de_lst da_nil) C.nd)
      (dss_cons (ds_for C.hp C.calm (di_list (dv 1)) (dg_n 3 C.nd) (dss_cons (ds_set 4 (c_callP C (by intro _; exact i_l_cup) 0 (da_cons (DE.f (de_bin bin_add (DF.o (DE.f (de_callB cd_len (by intro _; rfl) (by intro _; exact n_len) (by decide +kernel) (ov 2)))) (DF.o d_int))) da_nil)) C.nd)
      (dss_one (ds_set 2 (de_bin bin_add (DF.o (DE.f (de_bin bin_add (DF.o (DE.f (de_cut (ov 2) dp_none (dp_some (dv 4))))) (DF.o (DE.f (de_lst (da_cons (dv 3) da_nil))))))) (DF.o (DE.f (de_cut (ov 2) (dp_some (dv 4)) dp_none)))) C.nd))))
      (dss_one (ds_ret (DF.s (dv 2))))))
theorem sc_l_lifted : FnScope N_l_lifted ["_law_pump_here", "_law_order", "_law_name"] (defScope st_l_lifted) := ⟨rfl, rfl, rfl, by decide +kernel, rfl, by decide +kernel, by decide +kernel⟩
theorem der_l_lifted {ds_l_cup : DSp} (i_l_cup : IsFn P w K mg base "_law_cup" 1 ["_law_pump_here", "_law_many"] ds_l_cup) {f : Addr} {cdv : Value} {A : Around} {outer : List Env} {s : Shared} {H : Hp} {E : XK} (C : Cz (Fam.one (cxOf (L2.CX P w) P w K mg base N_l_lifted "_law_lifted" (defScope st_l_lifted) f cdv A outer s H E)) (fun cls d _ H' => E cls d H') 1) :
    DSs (Fam.one (cxOf (L2.CX P w) P w K mg base N_l_lifted "_law_lifted" (defScope st_l_lifted) f cdv A outer s H E)) (fun cls d _ H' => E cls d H') (defBody st_l_lifted) (ws_l_lifted ds_l_cup) :=
  (dss_cons (ds_setLc 3 [("_law_one", 4)] C.calm C.nd (di_list (dv 1)) (by intro _; show BlkOk N_l_lifted (defScope st_l_lifted) _ _; exact ⟨rfl, by decide +kernel, by decide +kernel, by decide +kernel, by decide +kernel⟩) (dg_n 4 (C.blk _).nd) (dts_one (dt_cmp (bin_neX (C.blk _).hu) (ov 4) (ov 2) (by first | rfl | with_unfolding_all rfl))) (dv 4))
      (dss_cons (ds_set 5 (c_callP C (by intro _; exact i_l_cup) 0 (da_cons (DE.f (de_bin bin_add (DF.o (DE.f (de_indexM (ov 1) (ov 2)))) (DF.o d_int))) da_nil)) C.nd)
      (dss_one (ds_ret (de_bin bin_add (DF.o (DE.f (de_bin bin_add (DF.o (DE.f (de_cut (ov 3) dp_none (dp_some (dv 5))))) (DF.o (DE.f (de_lst (da_cons (dv 2) da_nil))))))) (DF.o (DE.f (de_cut (ov 3) (dp_some (dv 5)) dp_none))))))))
theorem sc_l_hidden : FnScope N_l_hidden ["_law_pump_here", "_law_crew_here", "_law_many"] (defScope st_l_hidden) := ⟨rfl, rfl, rfl, by decide +kernel, rfl, by decide +kernel, by decide +kernel⟩
theorem der_l_hidden {ds_l_mixed : DSp} {ds_l_cup : DSp} {ds_l_lifted : DSp} (i_l_mixed : IsFn P w K mg base "_law_mixed" 2 ["_law_pump_here", "_law_rows"] ds_l_mixed) (n_len : mg "len" = none) (i_l_cup : IsFn P w K mg base "_law_cup" 1 ["_law_pump_here", "_law_many"] ds_l_cup) (n_range : mg "range" = none) (n_sorted : mg "sorted" = none) (n_set : mg "set" = none) (n_int : mg "int" = none) (i_l_lifted : IsFn P w K mg base "_law_lifted" 2 ["_law_pump_here", "_law_order", "_law_name"] ds_l_lifted) {f : Addr} {cdv : Value} {A : Around} {outer : List Env} {s : Shared} {H : Hp} {E : XK} (C : Cz (Fam.one (cxOf (L2.CX P w) P w K mg base N_l_hidden "_law_hidden" (defScope st_l_hidden) f cdv A outer s H E)) (fun cls d _ H' => E cls d H') 2) :
    DSs (Fam.one (cxOf (L2.CX P w) P w K mg base N_l_hidden "_law_hidden" (defScope st_l_hidden) f cdv A outer s H E)) (fun cls d _ H' => E cls d H') (defBody st_l_hidden) (ws_l_hidden ds_l_mixed ds_l_cup ds_l_lifted) :=
  (dss_cons (ds_par3 3 4 5 C.calm C.nd (c_callP C (by intro _; exact i_l_mixed) 0 (da_cons (dv 1) da_nil)) (de_lst da_nil) (de_ix ix_d (DF.o (DE.f (de_lst (da_cons d_int (da_cons d_int (da_cons d_int (da_cons (DE.f (de_bin bin_add (DF.o (DE.f (de_callB cd_len (by intro _; rfl) (by intro _; exact n_len) (by decide +kernel) (ov 1)))) (DF.o d_int))) da_nil))))))) (DF.o (DE.f (c_callP C (by intro _; exact i_l_cup) 0 (da_cons d_int da_nil)))) (by intro _ _; rfl)) (by intro _; first | rfl | with_unfolding_all rfl | kernel_rfl))
      (dss_cons (ds_par 6 7 C.calm C.nd (de_ix ix_d (DF.o (DE.f (de_lst (da_cons d_int (da_cons (DE.f (de_bin bin_sub (DF.o d_int) (DF.o d_int))) (da_cons (DE.f (de_bin bin_pow (DF.o d_int) (DF.o d_int))) (da_cons (DE.f (de_bin bin_sub (DF.o d_int) (DF.o (DE.f (de_bin bin_pow (DF.o d_int) (DF.o d_int)))))) da_nil))))))) (DF.o (DE.f (c_callP C (by intro _; exact i_l_cup) 0 (da_cons d_int da_nil)))) (by intro _ _; rfl)) (de_ix ix_d (DF.o (DE.f (de_lst (da_cons (DE.f (de_lst (da_cons d_int (da_cons d_int (da_cons d_int da_nil))))) (da_cons (DE.f (de_lst (da_cons d_int (da_cons d_int (da_cons (DE.f (de_bin bin_pow (DF.o d_int) (DF.o d_int))) da_nil))))) da_nil))))) (DF.o (DE.f (c_callP C (by intro _; exact i_l_cup) 0 (da_cons d_int da_nil)))) (by intro _ _; rfl)) (by intro _; first | rfl | with_unfolding_all rfl | kernel_rfl))
      (dss_cons (ds_for C.hp C.calm (di_rng1 (da_cons (dv 2) da_nil) (by intro _; exact n_range)) (dg_n 8 C.nd) (dss_cons (ds_set 9 (de_lst da_nil) C.nd)
      (dss_cons (ds_for C.hp C.calm (di_rng1 (da_cons (DE.f (de_bin bin_mul (DF.o (DE.f (c_callP C (by intro _; exact i_l_cup) 0 (da_cons (dv 5) da_nil)))) (DF.o (DE.f (de_callTy cd_int (by intro _; rfl) (by intro _; exact n_int) (by decide +kernel) (DF.o (DE.f (de_cmp bin_gt (ov 8) (DF.o d_int) (by first | rfl | with_unfolding_all rfl))))))))) da_nil) (by intro _; exact n_range)) (dg_n 10 C.nd) (dss_cons (ds_set 11 (de_ix ix_d (ov 1) (DF.o (DE.f (c_callP C (by intro _; exact i_l_cup) 0 (da_cons (DE.f (de_callB cd_len (by intro _; rfl) (by intro _; exact n_len) (by decide +kernel) (ov 1))) da_nil)))) (by intro _ _; rfl)) C.nd)
      (dss_cons (ds_expr (de_app 9 (dv 11)))
      (dss_one (ds_set 3 (c_callP C (by intro _; exact i_l_lifted) 0 (da_cons (dv 3) (da_cons (dv 11) da_nil))) C.nd)))))
      (dss_cons (ds_set 6 (de_bin bin_sub (DF.o (DE.f (de_bin bin_add (DF.o (DE.f (de_bin bin_add (ov 6) (DF.o d_int)))) (DF.o (DE.f (de_ix ix_d (ov 7) (DF.o (DE.f (c_callP C (by intro _; exact i_l_cup) 0 (da_cons d_int da_nil)))) (by intro _ _; rfl))))))) (DF.o (DE.f (c_callP C (by intro _; exact i_l_cup) 0 (da_cons d_int da_nil))))) C.nd)
      (dss_one (ds_expr (de_app 4 (DE.f (de_tup (da_cons (dv 6) (da_cons (dv 3) (da_cons (DE.f (de_sortW C.calm C.hu (by intro _; exact n_sorted) (by intro _; exact n_set) (ov 9))) da_nil))))))))))))
      (dss_one (ds_ret (DF.s (dv 4)))))))
theorem sc_l_looks : FnScope N_l_looks ["_law_pump_here", "_law_hidden_here"] (defScope st_l_looks) := ⟨rfl, rfl, rfl, by decide +kernel, rfl, by decide +kernel, by decide +kernel⟩
theorem der_l_looks {ds_l_cup : DSp} {ds_l_mixed : DSp} (i_l_cup : IsFn P w K mg base "_law_cup" 1 ["_law_pump_here", "_law_many"] ds_l_cup) (n_len : mg "len" = none) (n_min : mg "min" = none) (i_l_mixed : IsFn P w K mg base "_law_mixed" 2 ["_law_pump_here", "_law_rows"] ds_l_mixed) {f : Addr} {cdv : Value} {A : Around} {outer : List Env} {s : Shared} {H : Hp} {E : XK} (C : Cz (Fam.one (cxOf (L2.CX P w) P w K mg base N_l_looks "_law_looks" (defScope st_l_looks) f cdv A outer s H E)) (fun cls d _ H' => E cls d H') 2) :
    DSs (Fam.one (cxOf (L2.CX P w) P w K mg base N_l_looks "_law_looks" (defScope st_l_looks) f cdv A outer s H E)) (fun cls d _ H' => E cls d H') (defBody st_l_looks) (ws_l_looks ds_l_cup ds_l_mixed) :=
  (dss_cons (ds_set 2 (de_lst da_nil) C.nd)
      (dss_cons (ds_for C.hp C.calm (di_list (dv 1)) (dg_tup (n := 3) (dgs_cons (dg_n 3 C.nd) (dgs_cons (dg_n 4 C.nd) (dgs_cons (dg_n 5 C.nd) dgs_nil))) C.calm) (dss_cons (ds_set 6 (de_ix ix_d (DF.o (DE.f (de_lst (da_cons (DE.f (c_callP C (by intro _; exact i_l_cup) 0 (da_cons (DE.f (de_bin bin_add (DF.o (DE.f (de_callB cd_len (by intro _; rfl) (by intro _; exact n_len) (by decide +kernel) (ov 4)))) (DF.o d_int))) da_nil))) (da_cons (DE.f (c_callP C (by intro _; exact i_l_cup) 0 (da_cons (DE.f (de_bin bin_add (DF.o (DE.f (de_min2 C.calm (by intro _; exact n_min) (da_cons (DE.f (de_callB cd_len (by intro _; rfl) (by intro _; exact n_len) (by decide +kernel) (ov 4))) (da_cons d_int da_nil))))) (DF.o d_int))) da_nil))) da_nil))))) (DF.o (DE.f (c_callP C (by intro _; exact i_l_cup) 0 (da_cons d_int da_nil)))) (by intro _ _; rfl)) C.nd)
      (dss_cons (ds_expr (de_app 2 (DE.f (de_tup (da_cons (dv 3) (da_cons (DE.f (de_cut (ov 4) dp_none (dp_some (dv 6)))) da_nil))))))
      (dss_one (ds_if (dt_cmp (bin_eqX C.hu) (DF.o (DE.f (c_callP C (by intro _; exact i_l_cup) 0 (da_cons d_int da_nil)))) (DF.o d_int) (by first | rfl | with_unfolding_all rfl)) (dss_one (ds_expr (de_app 2 (DE.f (de_tup (da_cons (dv 3) (da_cons (DE.f (de_cut (ov 4) dp_none (dp_some (DE.f (c_callP C (by intro _; exact i_l_cup) 0 (da_cons (DE.f (de_bin bin_add (DF.o (DE.f (de_callB cd_len (by intro _; rfl) (by intro _; exact n_len) (by decide +kernel) (ov 4)))) (DF.o d_int))) da_nil)))))) da_nil))))))) dss_nil)))))
      (dss_one (ds_ret (c_callP C (by intro _; exact i_l_mixed) 0 (da_cons (dv 2) da_nil))))))
theorem sc_l_wild : FnScope N_l_wild ["_law_pump_here", "_law_crew_here", "_law_many"] (defScope st_l_wild) := ⟨rfl, rfl, rfl, by decide +kernel, rfl, by decide +kernel, by decide +kernel⟩
theorem der_l_wild {ds_l_cup : DSp} {ds_l_mixed : DSp} (i_l_cup : IsFn P w K mg base "_law_cup" 1 ["_law_pump_here", "_law_many"] ds_l_cup) (n_range : mg "range" = none) (i_l_mixed : IsFn P w K mg base "_law_mixed" 2 ["_law_pump_here", "_law_rows"] ds_l_mixed) (n_len : mg "len" = none) {f : Addr} {cdv : Value} {A : Around} {outer : List Env} {s : Shared} {H : Hp} {E : XK} (C : Cz (Fam.one (cxOf (L2.CX P w) P w K mg base N_l_wild "_law_wild" (defScope st_l_wild) f cdv A outer s H E)) (fun cls d _ H' => E cls d H') 2) :
    DSs (Fam.one (cxOf (L2.CX P w) P w K mg base N_l_wild "_law_wild" (defScope st_l_wild) f cdv A outer s H E)) (fun cls d _ H' => E cls d H') (defBody st_l_wild) (ws_l_wild ds_l_cup ds_l_mixed) :=
  (dss_cons (ds_par 3 4 C.calm C.nd (de_lst da_nil) (de_bin bin_sub (DF.o (DE.f (c_callP C (by intro _; exact i_l_cup) 0 (da_cons d_int da_nil)))) (DF.o d_int)) (by intro _; first | rfl | with_unfolding_all rfl | kernel_rfl))
      (dss_cons (ds_for C.hp C.calm (di_rng1 (da_cons (dv 2) da_nil) (by intro _; exact n_range)) (dg_n 5 C.nd) (dss_cons (ds_set 4 (de_bin bin_add (DF.o (DE.f (de_bin bin_add (ov 4) (DF.o d_int)))) (DF.o (DE.f (c_callP C (by intro _; exact i_l_cup) 0 (da_cons d_int da_nil))))) C.nd)
      (dss_one (ds_expr (de_app 3 (DE.f (de_tup (da_cons (dv 4) (da_cons (DE.f (de_cut (DF.o (DE.f (c_callP C (by intro _; exact i_l_mixed) 0 (da_cons (dv 1) da_nil)))) dp_none (dp_some (DE.f (c_callP C (by intro _; exact i_l_cup) 0 (da_cons (DE.f (de_bin bin_add (DF.o (DE.f (de_callB cd_len (by intro _; rfl) (by intro _; exact n_len) (by decide +kernel) (ov 1)))) (DF.o d_int))) da_nil)))))) da_nil)))))))))
      (dss_one (ds_ret (c_callP C (by intro _; exact i_l_mixed) 0 (da_cons (dv 3) da_nil))))))
theorem sc_l_seen : FnScope N_l_seen ["_law_looks_here"] (defScope st_l_seen) := ⟨rfl, rfl, rfl, by decide +kernel, rfl, by decide +kernel, by decide +kernel⟩
theorem der_l_seen (n_len : mg "len" = none) (n_list : mg "list" = none) (n_sorted : mg "sorted" = none) {f : Addr} {cdv : Value} {A : Around} {outer : List Env} {s : Shared} {H : Hp} {E : XK} (C : Cz (Fam.one (cxOf (L2.CX P w) P w K mg base N_l_seen "_law_seen" (defScope st_l_seen) f cdv A outer s H E)) (fun cls d _ H' => E cls d H') 0) :
    DSs (Fam.one (cxOf (L2.CX P w) P w K mg base N_l_seen "_law_seen" (defScope st_l_seen) f cdv A outer s H E)) (fun cls d _ H' => E cls d H') (defBody st_l_seen) (ws_l_seen) :=
  (dss_cons (ds_set 1 de_newD C.nd)
      (dss_cons (ds_for C.hp C.calm (di_list (dv 0)) (dg_tup (n := 2) (dgs_cons (dg_n 2 C.nd) (dgs_cons (dg_n 3 C.nd) dgs_nil)) C.calm) (dss_one (ds_if (DW.t (dw_or (dt_notinD C.hu (ov 2) (ov 1) (by first | rfl | with_unfolding_all rfl)) (dw_or1 (dt_cmp bin_lt (DF.o (DE.f (de_callB cd_len (by intro _; rfl) (by intro _; exact n_len) (by decide +kernel) (DF.o (DE.f (de_ixD C.hu (ov 1) (ov 2))))))) (DF.o (DE.f (de_callB cd_len (by intro _; rfl) (by intro _; exact n_len) (by decide +kernel) (ov 3)))) (by first | rfl | with_unfolding_all rfl))))) (dss_one (ds_putD 1 C.hu (dv 2) (DE.f (de_callTy cd_list (by intro _; rfl) (by intro _; exact n_list) (by decide +kernel) (ov 3))))) dss_nil)))
      (dss_one (ds_ret (de_lc [("_law_moment", 2)] C.calm C.nd (di_list (DE.f (de_callB (cd_sorted C.hu) (by intro _; rfl) (by intro _; exact n_sorted) (by decide +kernel) (DF.o (DE.f (de_callTy (cd_listD C.calm) (by intro _; rfl) (by intro _; exact n_list) (by decide +kernel) (ov 1))))))) (by intro _; show BlkOk N_l_seen (defScope st_l_seen) _ _; exact ⟨rfl, by decide +kernel, by decide +kernel, by decide +kernel, by decide +kernel⟩) (dg_n 2 (C.blk _).nd) dts_nil (DE.f (de_tup (da_cons (dv 2) (da_cons (DE.f (de_ixD (C.blk _).hu (ov 1) (ov 2))) da_nil)))))))))
theorem sc_l_known : FnScope N_l_known ["_law_tops", "_law_one", "_law_other"] (defScope st_l_known) := ⟨rfl, rfl, rfl, by decide +kernel, rfl, by decide +kernel, by decide +kernel⟩
theorem der_l_known  {f : Addr} {cdv : Value} {A : Around} {outer : List Env} {s : Shared} {H : Hp} {E : XK} (C : Cz (Fam.one (cxOf (L2.CX P w) P w K mg base N_l_known "_law_known" (defScope st_l_known) f cdv A outer s H E)) (fun cls d _ H' => E cls d H') 0) :
    DSs (Fam.one (cxOf (L2.CX P w) P w K mg base N_l_known "_law_known" (defScope st_l_known) f cdv A outer s H E)) (fun cls d _ H' => E cls d H') (defBody st_l_known) (ws_l_known) :=
  (dss_cons (ds_if (dt_cmp (bin_in C.hu) (ov 1) (ov 0) (by first | rfl | with_unfolding_all rfl)) (dss_one (ds_ret (de_or (de_cmp (bin_notin C.hu) (ov 2) (ov 0) (by first | rfl | with_unfolding_all rfl)) (de_one (de_cmp bin_lt (DF.o (DE.f (de_indexM (ov 0) (ov 1)))) (DF.o (DE.f (de_indexM (ov 0) (ov 2)))) (by first | rfl | with_unfolding_all rfl)))))) dss_nil)
      (dss_cons (ds_if (dt_cmp (bin_in C.hu) (ov 2) (ov 0) (by first | rfl | with_unfolding_all rfl)) (dss_one (ds_ret (DF.s d_bl))) dss_nil)
      (dss_one (ds_ret (DF.s d_non)))))
theorem sc_l_stretches : FnScope N_l_stretches ["_law_crew_here", "_law_seen_here", "_law_name"] (defScope st_l_stretches) := ⟨rfl, rfl, rfl, by decide +kernel, rfl, by decide +kernel, by decide +kernel⟩
theorem der_l_stretches {ds_l_known : DSp} (n_len : mg "len" = none) (n_range : mg "range" = none) (i_l_known : IsFn P w K mg base "_law_known" 1 ["_law_tops", "_law_one", "_law_other"] ds_l_known) {f : Addr} {cdv : Value} {A : Around} {outer : List Env} {s : Shared} {H : Hp} {E : XK} (C : Cz (Fam.one (cxOf (L2.CX P w) P w K mg base N_l_stretches "_law_stretches" (defScope st_l_stretches) f cdv A outer s H E)) (fun cls d _ H' => E cls d H') 1) :
    DSs (Fam.one (cxOf (L2.CX P w) P w K mg base N_l_stretches "_law_stretches" (defScope st_l_stretches) f cdv A outer s H E)) (fun cls d _ H' => E cls d H') (defBody st_l_stretches) (ws_l_stretches ds_l_known) :=
  (dss_cons (ds_set 3 (de_lst da_nil) C.nd)
      (dss_cons (ds_for C.hp C.calm (di_rng1 (da_cons (DE.f (de_callB cd_len (by intro _; rfl) (by intro _; exact n_len) (by decide +kernel) (ov 1))) da_nil) (by intro _; exact n_range)) (dg_n 4 C.nd) (dss_one (ds_for C.hp C.calm (di_rng2 (da_cons (DE.f (de_bin bin_add (ov 4) (DF.o d_int))) (da_cons (DE.f (de_callB cd_len (by intro _; rfl) (by intro _; exact n_len) (by decide +kernel) (ov 1))) da_nil)) (by intro _; exact n_range)) (dg_n 5 C.nd) (dss_one (ds_for C.hp C.calm (di_list (dv 0)) (dg_n 6 C.nd) (dss_one (ds_if (DW.t (dw_and (dt_cmp (bin_neX C.hu) (ov 6) (ov 2) (by first | rfl | with_unfolding_all rfl)) (dw_and1 (dt_valN (c_call C (by intro _; exact i_l_known) (da_cons (DE.f (de_ix ix_d (DF.o (DE.f (de_ix ix_d (ov 1) (ov 4) (by intro _ _; rfl)))) (DF.o d_int) (by intro _ _; rfl))) (da_cons (dv 6) (da_cons (dv 2) da_nil)))))))) (dss_one (ds_if (dt_valN (c_call C (by intro _; exact i_l_known) (da_cons (DE.f (de_ix ix_d (DF.o (DE.f (de_ix ix_d (ov 1) (ov 5) (by intro _ _; rfl)))) (DF.o d_int) (by intro _ _; rfl))) (da_cons (dv 2) (da_cons (dv 6) da_nil))))) (dss_one (ds_expr (de_app 3 (DE.f (de_tup (da_cons (DE.f (de_ix ix_d (DF.o (DE.f (de_ix ix_d (ov 1) (ov 4) (by intro _ _; rfl)))) (DF.o d_int) (by intro _ _; rfl))) (da_cons (DE.f (de_ix ix_d (DF.o (DE.f (de_ix ix_d (ov 1) (ov 5) (by intro _ _; rfl)))) (DF.o d_int) (by intro _ _; rfl))) (da_cons (dv 6) da_nil)))))))) dss_nil)) dss_nil)))))))
      (dss_one (ds_ret (DF.s (dv 3))))))
theorem sc_l_least : FnScope N_l_least ["_law_rows"] (defScope st_l_least) := ⟨rfl, rfl, rfl, by decide +kernel, rfl, by decide +kernel, by decide +kernel⟩
theorem der_l_least (n_sorted : mg "sorted" = none) {f : Addr} {cdv : Value} {A : Around} {outer : List Env} {s : Shared} {H : Hp} {E : XK} (C : Cz (Fam.one (cxOf (L2.CX P w) P w K mg base N_l_least "_law_least" (defScope st_l_least) f cdv A outer s H E)) (fun cls d _ H' => E cls d H') 0) :
    DSs (Fam.one (cxOf (L2.CX P w) P w K mg base N_l_least "_law_least" (defScope st_l_least) f cdv A outer s H E)) (fun cls d _ H' => E cls d H') (defBody st_l_least) (ws_l_least) :=
  (dss_cons (ds_set 1 (de_lst da_nil) C.nd)
      (dss_cons (ds_for C.hp C.calm (di_list (dv 0)) (dg_tup (n := 3) (dgs_cons (dg_n 2 C.nd) (dgs_cons (dg_n 3 C.nd) (dgs_cons (dg_n 4 C.nd) dgs_nil))) C.calm) (dss_cons (ds_setLc 5 [("_law_row", 6)] C.calm C.nd (di_list (dv 0)) (by intro _; show BlkOk N_l_least (defScope st_l_least) _ _; exact ⟨rfl, by decide +kernel, by decide +kernel, by decide +kernel, by decide +kernel⟩) (dg_n 6 (C.blk _).nd) (dts_one (DW.t (dw_and (dt_cmp bin_le (ov 2) (DF.o (DE.f (de_ix ix_d (ov 6) (DF.o d_int) (by intro _ _; rfl)))) (by first | rfl | with_unfolding_all rfl)) (dw_and (dt_cmp bin_le (DF.o (DE.f (de_ix ix_d (ov 6) (DF.o d_int) (by intro _ _; rfl)))) (ov 3) (by first | rfl | with_unfolding_all rfl)) (dw_and1 (dt_cmp (bin_neX (C.blk _).hu) (DF.o (DE.f (de_tup (da_cons (DE.f (de_ix ix_d (ov 6) (DF.o d_int) (by intro _ _; rfl))) (da_cons (DE.f (de_ix ix_d (ov 6) (DF.o d_int) (by intro _ _; rfl))) da_nil))))) (DF.o (DE.f (de_tup (da_cons (dv 2) (da_cons (dv 3) da_nil))))) (by first | rfl | with_unfolding_all rfl))))))) (dv 6))
      (dss_one (ds_if (dt_cmp (bin_eqX C.hu) (ov 5) (DF.o (DE.f (de_lst da_nil))) (by first | rfl | with_unfolding_all rfl)) (dss_one (ds_expr (de_app 1 (DE.f (de_tup (da_cons (dv 2) (da_cons (dv 3) (da_cons (dv 4) da_nil)))))))) dss_nil))))
      (dss_one (ds_ret (de_callB (cd_sorted C.hu) (by intro _; rfl) (by intro _; exact n_sorted) (by decide +kernel) (ov 1))))))
theorem sc_l_local : FnScope N_l_local ["_law_crew_here", "_law_seen_here", "_law_name"] (defScope st_l_local) := ⟨rfl, rfl, rfl, by decide +kernel, rfl, by decide +kernel, by decide +kernel⟩
theorem der_l_local {ds_l_known : DSp} (n_len : mg "len" = none) (n_range : mg "range" = none) (n_sorted : mg "sorted" = none) (i_l_known : IsFn P w K mg base "_law_known" 1 ["_law_tops", "_law_one", "_law_other"] ds_l_known) {f : Addr} {cdv : Value} {A : Around} {outer : List Env} {s : Shared} {H : Hp} {E : XK} (C : Cz (Fam.one (cxOf (L2.CX P w) P w K mg base N_l_local "_law_local" (defScope st_l_local) f cdv A outer s H E)) (fun cls d _ H' => E cls d H') 1) :
    DSs (Fam.one (cxOf (L2.CX P w) P w K mg base N_l_local "_law_local" (defScope st_l_local) f cdv A outer s H E)) (fun cls d _ H' => E cls d H') (defBody st_l_local) (ws_l_local ds_l_known) :=
  (dss_cons (ds_par 3 4 C.calm C.nd (de_lst da_nil) (DF.s d_int) (by intro _; first | rfl | with_unfolding_all rfl | kernel_rfl))
      (dss_cons (ds_for C.hp C.calm (di_rng1 (da_cons (DE.f (de_callB cd_len (by intro _; rfl) (by intro _; exact n_len) (by decide +kernel) (ov 1))) da_nil) (by intro _; exact n_range)) (dg_n 5 C.nd) (dss_cons (ds_un (DE.f (de_ix ix_d (ov 1) (ov 5) (by intro _ _; rfl))) (dg_tup (n := 2) (dgs_cons (dg_n 6 C.nd) (dgs_cons (dg_n 7 C.nd) dgs_nil)) C.calm))
      (dss_one (ds_if (dt_cmp (bin_in C.hu) (ov 2) (ov 7) (by first | rfl | with_unfolding_all rfl)) (dss_cons (ds_setLc 8 [("_law_one", 9)] C.calm C.nd (di_list (dv 0)) (by intro _; show BlkOk N_l_local (defScope st_l_local) _ _; exact ⟨rfl, by decide +kernel, by decide +kernel, by decide +kernel, by decide +kernel⟩) (dg_n 9 (C.blk _).nd) (dts_one (DW.t (dw_and (dt_cmp (bin_neX (C.blk _).hu) (ov 9) (ov 2) (by first | rfl | with_unfolding_all rfl)) (dw_and1 (dt_valN (c_call (C.blk _) (by intro _; exact i_l_known) (da_cons (dv 7) (da_cons (dv 2) (da_cons (dv 9) da_nil))))))))) (dv 9))
      (dss_cons (ds_set 10 (de_lst da_nil) C.nd)
      (dss_cons (ds_for C.hp C.calm (di_rng2 (da_cons (dv 4) (da_cons (dv 5) da_nil)) (by intro _; exact n_range)) (dg_n 11 C.nd) (dss_one (ds_if (dt_cmp (bin_neX C.hu) (DF.o (DE.f (de_lc [("_law_one", 9)] C.calm C.nd (di_list (dv 8)) (by intro _; show BlkOk N_l_local (defScope st_l_local) _ _; exact ⟨rfl, by decide +kernel, by decide +kernel, by decide +kernel, by decide +kernel⟩) (dg_n 9 (C.blk _).nd) (dts_one (dt_valN (c_call (C.blk _) (by intro _; exact i_l_known) (da_cons (DE.f (de_ix ix_d (DF.o (DE.f (de_ix ix_d (ov 1) (ov 11) (by intro _ _; rfl)))) (DF.o d_int) (by intro _ _; rfl))) (da_cons (dv 9) (da_cons (dv 2) da_nil)))))) (dv 9)))) (DF.o (DE.f (de_lst da_nil))) (by first | rfl | with_unfolding_all rfl)) (dss_one (ds_expr (de_app 10 (dv 11)))) dss_nil)))
      (dss_cons (ds_for C.hp C.calm (di_list (DE.f (de_cut (ov 10) (dp_some (DF.neg d_int)) dp_none))) (dg_n 11 C.nd) (dss_cons (ds_setLc 12 [("_law_one", 9)] C.calm C.nd (di_list (dv 8)) (by intro _; show BlkOk N_l_local (defScope st_l_local) _ _; exact ⟨rfl, by decide +kernel, by decide +kernel, by decide +kernel, by decide +kernel⟩) (dg_n 9 (C.blk _).nd) (dts_one (dt_valN (c_call (C.blk _) (by intro _; exact i_l_known) (da_cons (DE.f (de_ix ix_d (DF.o (DE.f (de_ix ix_d (ov 1) (ov 11) (by intro _ _; rfl)))) (DF.o d_int) (by intro _ _; rfl))) (da_cons (dv 9) (da_cons (dv 2) da_nil)))))) (dv 9))
      (dss_one (ds_set 3 (de_bin bin_add (ov 3) (DF.o (DE.f (de_lc [("_law_one", 9)] C.calm C.nd (di_list (DE.f (de_callB (cd_sorted C.hu) (by intro _; rfl) (by intro _; exact n_sorted) (by decide +kernel) (ov 12)))) (by intro _; show BlkOk N_l_local (defScope st_l_local) _ _; exact ⟨rfl, by decide +kernel, by decide +kernel, by decide +kernel, by decide +kernel⟩) (dg_n 9 (C.blk _).nd) dts_nil (DE.f (de_tup (da_cons (DE.f (de_ix ix_d (DF.o (DE.f (de_ix ix_d (ov 1) (ov 11) (by intro _ _; rfl)))) (DF.o d_int) (by intro _ _; rfl))) (da_cons (dv 6) (da_cons (dv 9) da_nil))))))))) C.nd))))
      (dss_one (ds_set 4 (DF.s (dv 5)) C.nd)))))) dss_nil))))
      (dss_one (ds_ret (DF.s (dv 3))))))
theorem sc_l_apart : FnScope N_l_apart ["_law_told"] (defScope st_l_apart) := ⟨rfl, rfl, rfl, by decide +kernel, rfl, by decide +kernel, by decide +kernel⟩
theorem der_l_apart (n_len : mg "len" = none) (n_range : mg "range" = none) {f : Addr} {cdv : Value} {A : Around} {outer : List Env} {s : Shared} {H : Hp} {E : XK} (C : Cz (Fam.one (cxOf (L2.CX P w) P w K mg base N_l_apart "_law_apart" (defScope st_l_apart) f cdv A outer s H E)) (fun cls d _ H' => E cls d H') 0) :
    DSs (Fam.one (cxOf (L2.CX P w) P w K mg base N_l_apart "_law_apart" (defScope st_l_apart) f cdv A outer s H E)) (fun cls d _ H' => E cls d H') (defBody st_l_apart) (ws_l_apart) :=
  (dss_cons (ds_for C.hp C.calm (di_rng2 (da_cons d_int (da_cons (DE.f (de_callB cd_len (by intro _; rfl) (by intro _; exact n_len) (by decide +kernel) (ov 0))) da_nil)) (by intro _; exact n_range)) (dg_n 1 C.nd) (dss_one (ds_if (DW.t (dw_and (dt_cmp (bin_neX C.hu) (DF.o (DE.f (de_cutT (DF.o (DE.f (de_ix ix_d (ov 0) (ov 1) (by intro _ _; rfl)))) dp_none (dp_some d_int)))) (DF.o (DE.f (de_cutT (DF.o (DE.f (de_ix ix_d (ov 0) (DF.o (DE.f (de_bin bin_sub (ov 1) (DF.o d_int)))) (by intro _ _; rfl)))) dp_none (dp_some d_int)))) (by first | rfl | with_unfolding_all rfl)) (dw_and1 (dt_cmp bin_lt (DF.o (DE.f (de_ix ix_d (DF.o (DE.f (de_ix ix_d (ov 0) (ov 1) (by intro _ _; rfl)))) (DF.o d_int) (by intro _ _; rfl)))) (DF.o (DE.f (de_ix ix_d (DF.o (DE.f (de_ix ix_d (ov 0) (DF.o (DE.f (de_bin bin_sub (ov 1) (DF.o d_int)))) (by intro _ _; rfl)))) (DF.o d_int) (by intro _ _; rfl)))) (by first | rfl | with_unfolding_all rfl))))) (dss_one (ds_ret (DF.s d_bl))) dss_nil)))
      (dss_one (ds_ret (DF.s d_bl))))
theorem sc_law_3 : FnScope N_law_3 ["_law_script"] (defScope st_law_3) := ⟨rfl, rfl, rfl, by decide +kernel, rfl, by decide +kernel, by decide +kernel⟩
theorem der_law_3 {ds_Sight_init : DSp} {a_Sight : Addr} {ds_Sight_eq : DSp} {ds_stretches : DSp} {ds_l_apart : DSp} {ds_l_local : DSp} {ds_l_least : DSp} {ds_l_stretches : DSp} {ds_l_seen : DSp} {ds_l_cup : DSp} {ds_l_wild : DSp} {ds_l_looks : DSp} {ds_l_hidden : DSp} {ds_l_crew : DSp} {ds_l_pump : DSp} (n_range : mg "range" = none) (mk_Sight : IsMk P w K mg base "Sight" a_Sight 6 ["self", "players", "looks"] 0 ds_Sight_init) (me_Sight___eq__ : IsMeth P w K mg base a_Sight "__eq__" 1 ["self", "other"] 0 ds_Sight_eq) (eqc_Sight : EqC K a_Sight) (i_stretches : IsFn P w K mg base "stretches" 7 ["sight", "player"] ds_stretches) (i_l_apart : IsFn P w K mg base "_law_apart" 1 ["_law_told"] ds_l_apart) (i_l_local : IsFn P w K mg base "_law_local" 2 ["_law_crew_here", "_law_seen_here", "_law_name"] ds_l_local) (n_isinstance : mg "isinstance" = none) (n_tuple : mg "tuple" = none) (n_list : mg "list" = none) (i_l_least : IsFn P w K mg base "_law_least" 1 ["_law_rows"] ds_l_least) (i_l_stretches : IsFn P w K mg base "_law_stretches" 2 ["_law_crew_here", "_law_seen_here", "_law_name"] ds_l_stretches) (i_l_seen : IsFn P w K mg base "_law_seen" 1 ["_law_looks_here"] ds_l_seen) (i_l_cup : IsFn P w K mg base "_law_cup" 1 ["_law_pump_here", "_law_many"] ds_l_cup) (i_l_wild : IsFn P w K mg base "_law_wild" 3 ["_law_pump_here", "_law_crew_here", "_law_many"] ds_l_wild) (i_l_looks : IsFn P w K mg base "_law_looks" 3 ["_law_pump_here", "_law_hidden_here"] ds_l_looks) (i_l_hidden : IsFn P w K mg base "_law_hidden" 3 ["_law_pump_here", "_law_crew_here", "_law_many"] ds_l_hidden) (i_l_crew : IsFn P w K mg base "_law_crew" 2 ["_law_pump_here", "_law_many"] ds_l_crew) (i_l_pump : IsFn P w K mg base "_law_pump" 1 ["_law_script", "_law_at"] ds_l_pump) (mk_Sight_1 : IsMk P w K mg base "Sight" a_Sight 6 ["self", "players", "looks"] 1 ds_Sight_init) {f : Addr} {cdv : Value} {A : Around} {outer : List Env} {s : Shared} {H : Hp} {E : XK} (C : Cz (Fam.one (cxOf (L2.CX P w) P w K mg base N_law_3 "law" (defScope st_law_3) f cdv A outer s H E)) (fun cls d _ H' => E cls d H') 7) :
    DSs (Fam.one (cxOf (L2.CX P w) P w K mg base N_law_3 "law" (defScope st_law_3) f cdv A outer s H E)) (fun cls d _ H' => E cls d H') (defBody st_law_3) (ws_law_3 ds_Sight_init a_Sight ds_Sight_eq ds_stretches ds_l_apart ds_l_local ds_l_least ds_l_stretches ds_l_seen ds_l_cup ds_l_wild ds_l_looks ds_l_hidden ds_l_crew ds_l_pump) :=
  (dss_cons (ds_for C.hp C.calm (di_rng1 (da_cons d_int da_nil) (by intro _; exact n_range)) (dg_n 1 C.nd) (dss_cons (ds_set 2 (c_call C (by intro _; exact i_l_pump) (da_cons (dv 0) (da_cons (dv 1) da_nil))) C.nd)
      (dss_cons (ds_set 3 (c_callP C (by intro _; exact i_l_crew) 2 (da_cons (DE.f (de_bin bin_add (DF.o d_int) (DF.o (DE.f (c_callP C (by intro _; exact i_l_cup) 2 (da_cons d_int da_nil)))))) da_nil)) C.nd)
      (dss_cons (ds_set 4 (c_callP C (by intro _; exact i_l_looks) 2 (da_cons (DE.f (c_callP C (by intro _; exact i_l_hidden) 2 (da_cons (dv 3) (da_cons (DE.f (c_callP C (by intro _; exact i_l_cup) 2 (da_cons d_int da_nil))) da_nil)))) da_nil)) C.nd)
      (dss_cons (ds_if (dt_cmp (bin_eqX C.hu) (DF.o (DE.f (c_callP C (by intro _; exact i_l_cup) 2 (da_cons d_int da_nil)))) (DF.o d_int) (by first | rfl | with_unfolding_all rfl)) (dss_one (ds_set 4 (c_callP C (by intro _; exact i_l_wild) 2 (da_cons (dv 3) (da_cons (DE.f (c_callP C (by intro _; exact i_l_cup) 2 (da_cons d_int da_nil))) da_nil))) C.nd)) dss_nil)
      (dss_cons (ds_par 5 6 C.calm C.nd (c_make C 0 (by intro _; exact mk_Sight) (da_cons (dv 3) (da_cons (dv 4) da_nil))) (c_call C (by intro _; exact i_l_seen) (da_cons (dv 4) da_nil)) (by intro _; first | rfl | with_unfolding_all rfl | kernel_rfl))
      (dss_cons (ds_for C.hp C.calm (di_list (dv 3)) (dg_n 7 C.nd) (dss_cons (ds_set 8 (c_call C (by intro _; exact i_l_least) (da_cons (DE.f (c_call C (by intro _; exact i_l_stretches) (da_cons (dv 3) (da_cons (dv 6) (da_cons (dv 7) da_nil))))) da_nil)) C.nd)
      (dss_cons (ds_set 9 (c_call C (by intro _; exact i_stretches) (da_cons (dv 5) (da_cons (dv 7) da_nil))) C.nd)
      (dss_cons (ds_if (DW.t (dw_or (dt_cmp (bin_neX C.hu) (ov 9) (ov 8) (by first | rfl | with_unfolding_all rfl)) (dw_or (dt_not (dt_val (de_isi "list" (ov 9) (by intro _; exact n_isinstance) (by intro _; exact n_list) (by decide +kernel)))) (dw_or1 (dt_cmp (bin_neX C.hu) (DF.o (DE.f (de_lend 9 (de_lc [("_law_row", 10)] C.calm C.nd (di_list (dv 9)) (by intro _; show BlkOk N_law_3 (defScope st_law_3) _ _; exact ⟨rfl, by decide +kernel, by decide +kernel, by decide +kernel, by decide +kernel⟩) (dg_n 10 (C.blk _).nd) (dts_one (dt_not (dt_val (de_isi "tuple" (ov 10) (by intro _; exact n_isinstance) (by intro _; exact n_tuple) (by decide +kernel))))) (dv 10))))) (DF.o (DE.f (de_lst da_nil))) (by first | rfl | with_unfolding_all rfl)))))) (dss_one (ds_ret (DF.s d_bl))) dss_nil)
      (dss_cons (ds_if (DW.t (dw_or (dt_cmp (bin_neX C.hu) (ov 9) (DF.o (DE.f (c_call C (by intro _; exact i_l_local) (da_cons (dv 3) (da_cons (dv 6) (da_cons (dv 7) da_nil)))))) (by first | rfl | with_unfolding_all rfl)) (dw_or1 (dt_not (dt_val (de_lend 9 (c_call C (by intro _; exact i_l_apart) (da_cons (dv 9) da_nil)))))))) (dss_one (ds_ret (DF.s d_bl))) dss_nil)
      (dss_cons (ds_expr (de_app 9 d_int))
      (dss_one (ds_if (dt_cmp (bin_neX C.hu) (DF.o (DE.f (c_call C (by intro _; exact i_stretches) (da_cons (dv 5) (da_cons (dv 7) da_nil))))) (ov 8) (by first | rfl | with_unfolding_all rfl)) (dss_one (ds_ret (DF.s d_bl))) dss_nil))))))))
      (dss_one (ds_if (dt_neO C (by intro _; exact me_Sight___eq__) eqc_Sight (dv 5) (DE.f (c_make C 0 (by intro _; exact mk_Sight) (da_cons (dv 3) (da_cons (dv 6) da_nil))))) (dss_one (ds_ret (DF.s d_bl))) dss_nil)))))))))
      (dss_cons (ds_par 11 12 C.calm C.nd (c_make C 0 (by intro _; exact mk_Sight) (da_cons (DE.f (de_lst (da_cons d_str (da_cons d_str (da_cons d_str da_nil))))) (da_cons (DE.f (de_lst (da_cons (DE.f (de_tup (da_cons d_int (da_cons (DE.f (de_lst (da_cons d_str da_nil))) da_nil)))) (da_cons (DE.f (de_tup (da_cons d_int (da_cons (DE.f (de_lst (da_cons d_str da_nil))) da_nil)))) (da_cons (DE.f (de_tup (da_cons d_int (da_cons (DE.f (de_lst (da_cons d_str da_nil))) da_nil)))) da_nil))))) da_nil))) (c_make C 0 (by intro _; exact mk_Sight) (da_cons (DE.f (de_lst (da_cons d_str (da_cons d_str (da_cons d_str da_nil))))) (da_cons (DE.f (de_lst (da_cons (DE.f (de_tup (da_cons d_int (da_cons (DE.f (de_lst (da_cons d_str (da_cons d_str da_nil)))) da_nil)))) (da_cons (DE.f (de_tup (da_cons d_int (da_cons (DE.f (de_lst (da_cons d_str da_nil))) da_nil)))) da_nil)))) da_nil))) (by intro _; first | rfl | with_unfolding_all rfl | kernel_rfl))
      (dss_cons (ds_if (DW.t (dw_or (dt_cmp (bin_neX C.hu) (DF.o (DE.f (c_call C (by intro _; exact i_stretches) (da_cons (dv 11) (da_cons d_str da_nil))))) (DF.o (DE.f (de_lst (da_cons (DE.f (de_tup (da_cons d_int (da_cons d_int (da_cons d_str da_nil))))) da_nil)))) (by first | rfl | with_unfolding_all rfl)) (dw_or1 (dt_cmp (bin_neX C.hu) (DF.o (DE.f (c_call C (by intro _; exact i_stretches) (da_cons (dv 12) (da_cons d_str da_nil))))) (DF.o (DE.f (de_lst (da_cons (DE.f (de_tup (da_cons d_int (da_cons d_int (da_cons d_str da_nil))))) (da_cons (DE.f (de_tup (da_cons d_int (da_cons d_int (da_cons d_str da_nil))))) da_nil))))) (by first | rfl | with_unfolding_all rfl))))) (dss_one (ds_ret (DF.s d_bl))) dss_nil)
      (dss_cons (ds_set 13 (c_make C 0 (by intro _; exact mk_Sight) (da_cons (DE.f (de_lst (da_cons d_str (da_cons d_str da_nil)))) (da_cons (DE.f (de_lst (da_cons (DE.f (de_tup (da_cons d_int (da_cons (DE.f (de_lst (da_cons d_str da_nil))) da_nil)))) (da_cons (DE.f (de_tup (da_cons d_int (da_cons (DE.f (de_lst da_nil)) da_nil)))) (da_cons (DE.f (de_tup (da_cons d_int (da_cons (DE.f (de_lst (da_cons d_str da_nil))) da_nil)))) da_nil))))) da_nil))) C.nd)
      (dss_one (ds_ret (de_and (de_cmp (bin_eqX C.hu) (DF.o (DE.f (c_call C (by intro _; exact i_stretches) (da_cons (dv 13) (da_cons d_str da_nil))))) (DF.o (DE.f (de_lst (da_cons (DE.f (de_tup (da_cons d_int (da_cons d_int (da_cons d_str da_nil))))) da_nil)))) (by first | rfl | with_unfolding_all rfl)) (de_and (de_cmp (bin_eqX C.hu) (DF.o (DE.f (c_call C (by intro _; exact i_stretches) (da_cons (dv 13) (da_cons d_str da_nil))))) (DF.o (DE.f (de_lst da_nil))) (by first | rfl | with_unfolding_all rfl)) (de_one (de_cmp (bin_eqX C.hu) (DF.o (DE.f (c_call C (by intro _; exact i_stretches) (da_cons (DE.f (c_make C 1 (by intro _; exact mk_Sight_1) (da_cons (DE.f (de_lst (da_cons d_str da_nil))) da_nil))) (da_cons d_str da_nil))))) (DF.o (DE.f (de_lst da_nil))) (by first | rfl | with_unfolding_all rfl)))))))))))
theorem sc_Sight_init : FnScope N_Sight_init ["self", "players", "looks"] (defScope st_Sight_init) := ⟨rfl, rfl, rfl, by decide +kernel, rfl, by decide +kernel, by decide +kernel⟩
theorem der_Sight_init {ds_are_players : DSp} {a_InvalidList : Addr} {a_Sight : Addr} {ds_seen_in : DSp} (i_are_players : IsFn P w K mg base "are_players" 3 ["value"] ds_are_players) (e_InvalidList : IsErr P K mg "InvalidList" "value" a_InvalidList) (n_isinstance : mg "isinstance" = none) (n_list : mg "list" = none) (n_tuple : mg "tuple" = none) (c_Sight : Cls K a_Sight) (na_Sight_crew : NoAttr K a_Sight "crew") (i_seen_in : IsFn P w K mg base "seen_in" 5 ["players", "looks"] ds_seen_in) (na_Sight_seen : NoAttr K a_Sight "seen") {f : Addr} {cdv : Value} {A : Around} {outer : List Env} {s : Shared} {H : Hp} {E : XK} (C : Cz (Fam.one (cxOf (L2.CX P w) P w K mg base N_Sight_init "Sight.__init__" (defScope st_Sight_init) f cdv A outer s H E)) (fun cls d _ H' => E cls d H') 5) :
    DSs (Fam.one (cxOf (L2.CX P w) P w K mg base N_Sight_init "Sight.__init__" (defScope st_Sight_init) f cdv A outer s H E)) (fun cls d _ H' => E cls d H') (defBody st_Sight_init) (ws_Sight_init ds_are_players a_InvalidList a_Sight ds_seen_in) :=
  (dss_cons (ds_if (dt_not (dt_val (c_call C (by intro _; exact i_are_players) (da_cons (dv 1) da_nil)))) (dss_one (c_raise C (by intro _; exact e_InvalidList) (da_cons (dv 1) da_nil))) dss_nil)
      (dss_cons (ds_set 3 (de_if (dt_isN0 (ov 2)) (de_lst da_nil) (DF.s (dv 2))) C.nd)
      (dss_cons (ds_if (dt_not (dt_val (de_isi "list" (ov 3) (by intro _; exact n_isinstance) (by intro _; exact n_list) (by decide +kernel)))) (dss_one (c_raise C (by intro _; exact e_InvalidList) (da_cons (dv 2) da_nil))) dss_nil)
      (dss_cons (ds_fld 0 c_Sight na_Sight_crew (DE.f (de_callTy cd_tuple (by intro _; rfl) (by intro _; exact n_tuple) (by decide +kernel) (ov 1))))
      (dss_one (ds_fld 0 c_Sight na_Sight_seen (DE.f (c_call C (by intro _; exact i_seen_in) (da_cons (DE.f (de_fld c_Sight na_Sight_crew (ov 0))) (da_cons (dv 3) da_nil))))))))))
-- Sight.__iter__: not covered: KeyError('TypeError')
theorem sc_Sight_eq : FnScope N_Sight_eq ["self", "other"] (defScope st_Sight_eq) := ⟨rfl, rfl, rfl, by decide +kernel, rfl, by decide +kernel, by decide +kernel⟩
theorem der_Sight_eq {a_Sight : Addr} (c_Sight : Cls K a_Sight) (na_Sight_seen : NoAttr K a_Sight "seen") (na_Sight_crew : NoAttr K a_Sight "crew") (m_Sight : mg "Sight" = some (.ref a_Sight)) (isi_Sight : IsiC K a_Sight) (n_isinstance : mg "isinstance" = none) {f : Addr} {cdv : Value} {A : Around} {outer : List Env} {s : Shared} {H : Hp} {E : XK} (C : Cz (Fam.one (cxOf (L2.CX P w) P w K mg base N_Sight_eq "Sight.__eq__" (defScope st_Sight_eq) f cdv A outer s H E)) (fun cls d _ H' => E cls d H') 0) :
    DSs (Fam.one (cxOf (L2.CX P w) P w K mg base N_Sight_eq "Sight.__eq__" (defScope st_Sight_eq) f cdv A outer s H E)) (fun cls d _ H' => E cls d H') (defBody st_Sight_eq) (ws_Sight_eq a_Sight K) :=
  (dss_one (ds_ret (de_and (de_isiC isi_Sight (ov 1) (by intro _; exact n_isinstance) (by intro _; exact m_Sight)) (de_and (de_cmp (bin_eqX C.hu) (DF.o (DE.f (de_fld c_Sight na_Sight_crew (ov 0)))) (DF.o (DE.f (de_fld c_Sight na_Sight_crew (ov 1)))) (by first | rfl | with_unfolding_all rfl)) (de_one (de_cmp (bin_eqD C.hu) (DF.o (DE.f (de_fld c_Sight na_Sight_seen (ov 0)))) (DF.o (DE.f (de_fld c_Sight na_Sight_seen (ov 1)))) (by first | rfl | with_unfolding_all rfl)))))))
theorem sc_Sight_players : FnScope N_Sight_players ["self"] (defScope st_Sight_players) := ⟨rfl, rfl, rfl, by decide +kernel, rfl, by decide +kernel, by decide +kernel⟩
theorem der_Sight_players {a_Sight : Addr} (c_Sight : Cls K a_Sight) (na_Sight_crew : NoAttr K a_Sight "crew") (n_list : mg "list" = none) {f : Addr} {cdv : Value} {A : Around} {outer : List Env} {s : Shared} {H : Hp} {E : XK} (C : Cz (Fam.one (cxOf (L2.CX P w) P w K mg base N_Sight_players "Sight.players" (defScope st_Sight_players) f cdv A outer s H E)) (fun cls d _ H' => E cls d H') 0) :
    DSs (Fam.one (cxOf (L2.CX P w) P w K mg base N_Sight_players "Sight.players" (defScope st_Sight_players) f cdv A outer s H E)) (fun cls d _ H' => E cls d H') (defBody st_Sight_players) (ws_Sight_players a_Sight) :=
  (dss_one (ds_ret (de_callTy cd_list (by intro _; rfl) (by intro _; exact n_list) (by decide +kernel) (DF.o (DE.f (de_fld c_Sight na_Sight_crew (ov 0)))))))
theorem sc_Sight_moments : FnScope N_Sight_moments ["self"] (defScope st_Sight_moments) := ⟨rfl, rfl, rfl, by decide +kernel, rfl, by decide +kernel, by decide +kernel⟩
theorem der_Sight_moments {a_Sight : Addr} (c_Sight : Cls K a_Sight) (na_Sight_seen : NoAttr K a_Sight "seen") (n_list : mg "list" = none) (n_sorted : mg "sorted" = none) {f : Addr} {cdv : Value} {A : Around} {outer : List Env} {s : Shared} {H : Hp} {E : XK} (C : Cz (Fam.one (cxOf (L2.CX P w) P w K mg base N_Sight_moments "Sight.moments" (defScope st_Sight_moments) f cdv A outer s H E)) (fun cls d _ H' => E cls d H') 0) :
    DSs (Fam.one (cxOf (L2.CX P w) P w K mg base N_Sight_moments "Sight.moments" (defScope st_Sight_moments) f cdv A outer s H E)) (fun cls d _ H' => E cls d H') (defBody st_Sight_moments) (ws_Sight_moments a_Sight) :=
  (dss_one (ds_ret (de_callB (cd_sorted C.hu) (by intro _; rfl) (by intro _; exact n_sorted) (by decide +kernel) (DF.o (DE.f (de_callTy (cd_listD C.calm) (by intro _; rfl) (by intro _; exact n_list) (by decide +kernel) (DF.o (DE.f (de_fld c_Sight na_Sight_seen (ov 0))))))))))
theorem sc_Sight_check_moment : FnScope N_Sight_check_moment ["self", "moment"] (defScope st_Sight_check_moment) := ⟨rfl, rfl, rfl, by decide +kernel, rfl, by decide +kernel, by decide +kernel⟩
theorem der_Sight_check_moment {ds_check_whole : DSp} {a_Sight : Addr} {a_Unknown : Addr} (i_check_whole : IsFn P w K mg base "check_whole" 2 ["value"] ds_check_whole) (c_Sight : Cls K a_Sight) (na_Sight_seen : NoAttr K a_Sight "seen") (e_Unknown : IsErr P K mg "Unknown" "which" a_Unknown) {f : Addr} {cdv : Value} {A : Around} {outer : List Env} {s : Shared} {H : Hp} {E : XK} (C : Cz (Fam.one (cxOf (L2.CX P w) P w K mg base N_Sight_check_moment "Sight.check_moment" (defScope st_Sight_check_moment) f cdv A outer s H E)) (fun cls d _ H' => E cls d H') 2) :
    DSs (Fam.one (cxOf (L2.CX P w) P w K mg base N_Sight_check_moment "Sight.check_moment" (defScope st_Sight_check_moment) f cdv A outer s H E)) (fun cls d _ H' => E cls d H') (defBody st_Sight_check_moment) (ws_Sight_check_moment ds_check_whole a_Sight a_Unknown) :=
  (dss_cons (ds_expr (c_call C (by intro _; exact i_check_whole) (da_cons (dv 1) da_nil)))
      (dss_one (ds_if (dt_notinD C.hu (ov 1) (DF.o (DE.f (de_fld c_Sight na_Sight_seen (ov 0)))) (by first | rfl | with_unfolding_all rfl)) (dss_one (c_raise C (by intro _; exact e_Unknown) (da_cons (dv 1) da_nil))) dss_nil)))
theorem sc_Sight_tops : FnScope N_Sight_tops ["self", "moment"] (defScope st_Sight_tops) := ⟨rfl, rfl, rfl, by decide +kernel, rfl, by decide +kernel, by decide +kernel⟩
theorem der_Sight_tops {ds_Sight_check_moment : DSp} {a_Sight : Addr} (me_Sight_check_moment : IsMeth P w K mg base a_Sight "check_moment" 3 ["self", "moment"] 0 ds_Sight_check_moment) (c_Sight : Cls K a_Sight) (na_Sight_seen : NoAttr K a_Sight "seen") (n_list : mg "list" = none) {f : Addr} {cdv : Value} {A : Around} {outer : List Env} {s : Shared} {H : Hp} {E : XK} (C : Cz (Fam.one (cxOf (L2.CX P w) P w K mg base N_Sight_tops "Sight.tops" (defScope st_Sight_tops) f cdv A outer s H E)) (fun cls d _ H' => E cls d H') 3) :
    DSs (Fam.one (cxOf (L2.CX P w) P w K mg base N_Sight_tops "Sight.tops" (defScope st_Sight_tops) f cdv A outer s H E)) (fun cls d _ H' => E cls d H') (defBody st_Sight_tops) (ws_Sight_tops ds_Sight_check_moment a_Sight) :=
  (dss_cons (ds_expr (c_meth C 0 (by intro _; exact me_Sight_check_moment) (dv 0) (da_cons (dv 1) da_nil)))
      (dss_one (ds_ret (de_callTy cd_list (by intro _; rfl) (by intro _; exact n_list) (by decide +kernel) (DF.o (DE.f (de_ixD C.hu (DF.o (DE.f (de_fld c_Sight na_Sight_seen (ov 0)))) (ov 1))))))))
end
end Lk10
namespace Sp
open PySem L2 DL
local macro_rules | `(tactic| walk_at "wp") => `(tactic| simp only [wSeq, wIf, wAnd, wOr, wNot, vAnd, vOr, vNot, wB, wBin, wChain, wRet, wRetN, wNext, wNever, wIfE, eF, fO, fS, wNeg, wC, wVar, oVar, wDrop, wSet, wNil, wCons, wLst, wTup, wCall, wFn, wFnP,  wTwo, wThree, wPar, wPar3, wUn, wgN, wgTup, wgCons, wgNil, wAugI, wIsN, sIsN, nonB, wXf, wRaise, wMet, tyOk, sLen, sToInt, sList, sListD, sTuple, sAdd, sInt, sInt0, sIn, sEq, sEqD, sEqX_nil, sEqX_str, sEqX_int, sEqX_bl, sEqX_non, sEqX_sL, sEqX_iL, sEqX_sT, List.isEmpty_map, flt_all, List.isEmpty_nil, List.isEmpty_cons, sIx, sCut, wCut, wNoP, wSoP, wYes, wBreak, wCont, wApp, wPut, wFld, wMeth, wMake, wSetF, putD, nons, wIxD, wInD, wGet2, wNewD, wPutD, wEqO, wMin2, wMax2, wMaxLen, wRev, keyD,  wiSeq, wiTup, wiStr, wiRng1, wiRng2, wiEnum, outSlot,  view, SD.fz, Cn.fz, D.strip, asB, ownOf, keepKind, argsD, finD, finE, backD, startD, wipeD, unblk,  isi_list_lst, isi_list_tup, isi_list_str, isi_list_int, isi_list_bl, isi_list_non, isi_list_dic, isi_tup_lst, isi_tup_tup, isi_tup_str, isi_tup_int, isi_tup_bl, isi_tup_non, isi_tup_dic, isi_str_lst, isi_str_tup, isi_str_str, isi_str_int, isi_str_bl, isi_str_non, isi_str_dic,  isi_int_lst, isi_int_tup, isi_int_str, isi_int_int, isi_int_bl, isi_int_non, isi_int_dic, isi_bl_lst, isi_bl_tup, isi_bl_str, isi_bl_int, isi_bl_bl, isi_bl_non, isi_bl_dic,  eqOk_str, eqOk_int, eqOk_bl, eqOk_non, eqOk_sL, eqOk_iL, eqOk_nil, eqOk_nilT, deq_str, deq_int, deq_non, deq_sL, deq_iL, deq_sL_nil, deq_iL_nil, dmem_str, dmem_int, some_strs, some_ints, sIndex_str, sIndex_int, sJoin_str, sSum_int, sSorted_str, sSorted_int, keys_I, keys_S, valG_I, valG_S, putG_I, putG_S, encA_len, Option.isSome_map, PySem.sizeLine_eq,  List.getElem?_cons_succ, List.getElem?_cons_zero, List.getElem?_nil, List.set_cons_succ, List.set_cons_zero, List.length_cons, List.length_nil, List.length_map, List.length_append, List.map_cons, List.map_nil, List.cons_append, List.nil_append, List.replicate_succ, List.replicate_zero, List.getD_cons_succ, List.getD_cons_zero, List.lookup_cons, List.lookup_nil, nm_players_crew, nm_moments_crew, nm_tops_crew, nm_above_crew, nm_check_moment_crew, nm_with_look_crew, nm_all_looks_crew, nm_until_crew, nm_renamed_crew, nm_is_pair_crew, nm_rows_crew, nm_least_at_crew, nm_most_at_crew, nm_seen_crew, nm_folk_crew, nm_shown_crew, nm_notes_crew, nm_count_crew, nm_total_crew, nm_look_crew, nm_undo_crew, nm_copy_crew, nm_sight_crew, nm_players_seen, nm_moments_seen, nm_tops_seen, nm_above_seen, nm_check_moment_seen, nm_with_look_seen, nm_all_looks_seen, nm_until_seen, nm_renamed_seen, nm_is_pair_seen, nm_rows_seen, nm_least_at_seen, nm_most_at_seen, nm_crew_seen, nm_folk_seen, nm_shown_seen, nm_notes_seen, nm_count_seen, nm_total_seen, nm_look_seen, nm_undo_seen, nm_copy_seen, nm_sight_seen, nm_players_folk, nm_moments_folk, nm_tops_folk, nm_above_folk, nm_check_moment_folk, nm_with_look_folk, nm_all_looks_folk, nm_until_folk, nm_renamed_folk, nm_is_pair_folk, nm_rows_folk, nm_least_at_folk, nm_most_at_folk, nm_crew_folk, nm_seen_folk, nm_shown_folk, nm_notes_folk, nm_count_folk, nm_total_folk, nm_look_folk, nm_undo_folk, nm_copy_folk, nm_sight_folk, nm_players_shown, nm_moments_shown, nm_tops_shown, nm_above_shown, nm_check_moment_shown, nm_with_look_shown, nm_all_looks_shown, nm_until_shown, nm_renamed_shown, nm_is_pair_shown, nm_rows_shown, nm_least_at_shown, nm_most_at_shown, nm_crew_shown, nm_seen_shown, nm_folk_shown, nm_notes_shown, nm_count_shown, nm_total_shown, nm_look_shown, nm_undo_shown, nm_copy_shown, nm_sight_shown, nm_players_notes, nm_moments_notes, nm_tops_notes, nm_above_notes, nm_check_moment_notes, nm_with_look_notes, nm_all_looks_notes, nm_until_notes, nm_renamed_notes, nm_is_pair_notes, nm_rows_notes, nm_least_at_notes, nm_most_at_notes, nm_crew_notes, nm_seen_notes, nm_folk_notes, nm_shown_notes, nm_count_notes, nm_total_notes, nm_look_notes, nm_undo_notes, nm_copy_notes, nm_sight_notes,  Nat.reduceAdd, Nat.reduceSub, Nat.reduceLT, Nat.reduceLeDiff, Nat.reduceMul, Nat.reduceEqDiff, Nat.zero_add, Nat.add_zero, Nat.lt_add_left_iff_pos, Nat.le_add_left, Nat.zero_le, Nat.zero_lt_succ, Nat.succ_lt_succ_iff,  Cn.l.injEq, Cn.k.injEq, true_and, and_true, exists_eq', exists_eq_left', Option.some.injEq, Option.map_some, Option.map_none, Option.bind_some, Option.isSome_some, Option.isSome_none,  decide_eq_true_eq, Bool.false_eq_true, Bool.not_eq_true', Bool.not_true, Bool.not_false, Bool.not_not, Bool.true_xor, Bool.false_xor, decide_eq_false_iff_not, if_true, if_false, ite_true, ite_false, reduceIte, reduceCtorEq, decide_true, decide_false, decide_not, and_self, eq_self, ne_eq, not_true, not_false_eq_true, exists_const, and_imp, beq_self_eq_true])
local macro_rules | `(tactic| walk_at "wq") => `(tactic| try walk_at "wp")
local macro_rules | `(tactic| walk_at "w1") => `(tactic| simp only [wSeq_k, wIf, wAnd, wOr, wNot, vAnd, vOr, vNot, wB, wBin, wChain, wRet, wRetN, wNext, wNever, wIfE, eF, fO, fS, wNeg, wC, wVar, oVar, wDrop, wSet, wNil, wCons, wLst, wTup, wCall, wFn, wFnP,  wTwo, wThree, wPar, wPar3, wUn, wgN, wgTup, wgCons, wgNil, wAugI, wIsN, sIsN, nonB, wXf, wRaise, wMet, tyOk, sLen, sToInt, sList, sListD, sTuple, sAdd, sInt, sInt0, sIn, sEq, sEqD, sEqX_nil, sEqX_str, sEqX_int, sEqX_bl, sEqX_non, sEqX_sL, sEqX_iL, sEqX_sT, List.isEmpty_map, flt_all, List.isEmpty_nil, List.isEmpty_cons, sIx, sCut, wCut, wNoP, wSoP, wYes, wBreak, wCont, wApp, wPut, wFld, wMeth, wMake, wSetF, putD, nons, wIxD, wInD, wGet2, wNewD, wPutD, wEqO, wMin2, wMax2, wMaxLen, wRev, keyD,  wiSeq, wiTup, wiStr, wiRng1, wiRng2, wiEnum, outSlot,  view, SD.fz, Cn.fz, D.strip, asB, ownOf, keepKind, argsD, finD, finE, backD, startD, wipeD, unblk,  isi_list_lst, isi_list_tup, isi_list_str, isi_list_int, isi_list_bl, isi_list_non, isi_list_dic, isi_tup_lst, isi_tup_tup, isi_tup_str, isi_tup_int, isi_tup_bl, isi_tup_non, isi_tup_dic, isi_str_lst, isi_str_tup, isi_str_str, isi_str_int, isi_str_bl, isi_str_non, isi_str_dic,  isi_int_lst, isi_int_tup, isi_int_str, isi_int_int, isi_int_bl, isi_int_non, isi_int_dic, isi_bl_lst, isi_bl_tup, isi_bl_str, isi_bl_int, isi_bl_bl, isi_bl_non, isi_bl_dic,  eqOk_str, eqOk_int, eqOk_bl, eqOk_non, eqOk_sL, eqOk_iL, eqOk_nil, eqOk_nilT, deq_str, deq_int, deq_non, deq_sL, deq_iL, deq_sL_nil, deq_iL_nil, dmem_str, dmem_int, some_strs, some_ints, sIndex_str, sIndex_int, sJoin_str, sSum_int, sSorted_str, sSorted_int, keys_I, keys_S, valG_I, valG_S, putG_I, putG_S, encA_len, Option.isSome_map, PySem.sizeLine_eq,  List.getElem?_cons_succ, List.getElem?_cons_zero, List.getElem?_nil, List.set_cons_succ, List.set_cons_zero, List.length_cons, List.length_nil, List.length_map, List.length_append, List.map_cons, List.map_nil, List.cons_append, List.nil_append, List.replicate_succ, List.replicate_zero, List.getD_cons_succ, List.getD_cons_zero, List.lookup_cons, List.lookup_nil, nm_players_crew, nm_moments_crew, nm_tops_crew, nm_above_crew, nm_check_moment_crew, nm_with_look_crew, nm_all_looks_crew, nm_until_crew, nm_renamed_crew, nm_is_pair_crew, nm_rows_crew, nm_least_at_crew, nm_most_at_crew, nm_seen_crew, nm_folk_crew, nm_shown_crew, nm_notes_crew, nm_count_crew, nm_total_crew, nm_look_crew, nm_undo_crew, nm_copy_crew, nm_sight_crew, nm_players_seen, nm_moments_seen, nm_tops_seen, nm_above_seen, nm_check_moment_seen, nm_with_look_seen, nm_all_looks_seen, nm_until_seen, nm_renamed_seen, nm_is_pair_seen, nm_rows_seen, nm_least_at_seen, nm_most_at_seen, nm_crew_seen, nm_folk_seen, nm_shown_seen, nm_notes_seen, nm_count_seen, nm_total_seen, nm_look_seen, nm_undo_seen, nm_copy_seen, nm_sight_seen, nm_players_folk, nm_moments_folk, nm_tops_folk, nm_above_folk, nm_check_moment_folk, nm_with_look_folk, nm_all_looks_folk, nm_until_folk, nm_renamed_folk, nm_is_pair_folk, nm_rows_folk, nm_least_at_folk, nm_most_at_folk, nm_crew_folk, nm_seen_folk, nm_shown_folk, nm_notes_folk, nm_count_folk, nm_total_folk, nm_look_folk, nm_undo_folk, nm_copy_folk, nm_sight_folk, nm_players_shown, nm_moments_shown, nm_tops_shown, nm_above_shown, nm_check_moment_shown, nm_with_look_shown, nm_all_looks_shown, nm_until_shown, nm_renamed_shown, nm_is_pair_shown, nm_rows_shown, nm_least_at_shown, nm_most_at_shown, nm_crew_shown, nm_seen_shown, nm_folk_shown, nm_notes_shown, nm_count_shown, nm_total_shown, nm_look_shown, nm_undo_shown, nm_copy_shown, nm_sight_shown, nm_players_notes, nm_moments_notes, nm_tops_notes, nm_above_notes, nm_check_moment_notes, nm_with_look_notes, nm_all_looks_notes, nm_until_notes, nm_renamed_notes, nm_is_pair_notes, nm_rows_notes, nm_least_at_notes, nm_most_at_notes, nm_crew_notes, nm_seen_notes, nm_folk_notes, nm_shown_notes, nm_count_notes, nm_total_notes, nm_look_notes, nm_undo_notes, nm_copy_notes, nm_sight_notes,  Nat.reduceAdd, Nat.reduceSub, Nat.reduceLT, Nat.reduceLeDiff, Nat.reduceMul, Nat.reduceEqDiff, Nat.zero_add, Nat.add_zero, Nat.lt_add_left_iff_pos, Nat.le_add_left, Nat.zero_le, Nat.zero_lt_succ, Nat.succ_lt_succ_iff,  Cn.l.injEq, Cn.k.injEq, true_and, and_true, exists_eq', exists_eq_left', Option.some.injEq, Option.map_some, Option.map_none, Option.bind_some, Option.isSome_some, Option.isSome_none,  decide_eq_true_eq, Bool.false_eq_true, Bool.not_eq_true', Bool.not_true, Bool.not_false, Bool.not_not, Bool.true_xor, Bool.false_xor, decide_eq_false_iff_not, if_true, if_false, ite_true, ite_false, reduceIte, reduceCtorEq, decide_true, decide_false, decide_not, and_self, eq_self, ne_eq, not_true, not_false_eq_true, exists_const, and_imp, beq_self_eq_true])
local macro_rules | `(tactic| walk_at "ws") => `(tactic| repeat (first | refine kont_intro ?_ | walk_at "w1"))
mutual
def vld : D → Bool
  | .non | .bl _ | .int _ => true
  | .str z => decide (z.length ≤ 10000)
  | .lst xs => decide (xs.length < 4000) && vldL xs
  | .tup xs => decide (xs.length < 4000) && vldL xs
  | .dic _ => true
  | _ => false
def vldL : List D → Bool
  | [] => true
  | x :: xs => vld x && vldL xs
end
theorem vldL_all : ∀ xs : List D, vldL xs = xs.all vld
  | [] => rfl
  | x :: xs => by simp only [vldL, List.all_cons, vldL_all xs]
theorem vld_lst {xs : List D} (h : vld (.lst xs) = true) : xs.length < 4000 ∧ ∀ x ∈ xs, vld x = true := by
  simp only [vld, Bool.and_eq_true, decide_eq_true_eq, vldL_all, List.all_eq_true] at h
  exact h
theorem vld_tup {xs : List D} (h : vld (.tup xs) = true) : xs.length < 4000 ∧ ∀ x ∈ xs, vld x = true := by
  simp only [vld, Bool.and_eq_true, decide_eq_true_eq, vldL_all, List.all_eq_true] at h
  exact h
theorem vld_lst_of {xs : List D} (h1 : xs.length < 4000) (h2 : ∀ x ∈ xs, vld x = true) : vld (.lst xs) = true := by
  simp only [vld, Bool.and_eq_true, decide_eq_true_eq, vldL_all, List.all_eq_true]
  exact ⟨h1, h2⟩
theorem vld_tup_of {xs : List D} (h1 : xs.length < 4000) (h2 : ∀ x ∈ xs, vld x = true) : vld (.tup xs) = true := by
  simp only [vld, Bool.and_eq_true, decide_eq_true_eq, vldL_all, List.all_eq_true]
  exact ⟨h1, h2⟩
def isWhole : D → Bool
  | .int _ => true
  | _ => false
def ds_is_whole : DSp := fun α Q _ => ∃ x : D, α = [some (.d x)] ∧ vld x = true ∧ Q (.d (.bl (isWhole x))) α
theorem len_is_whole (α : Dl) (Q : SD → Dl → Prop) (E : XQ) (h : ds_is_whole α Q E) : α.length = 1 ∧ ∀ (i : Nat) (c : Cn), α[i]? ≠ some (some (.o c)) := by
  obtain ⟨n, rfl, _⟩ := h
  exact lenOf rfl rfl
theorem law_is_whole (α : Dl) (Q : SD → Dl → Prop) (E : XQ) (h : ds_is_whole α Q E) : ws_is_whole { nx := finD α Q (.d .non), rt := finD α Q } (finE α E) (startD N_is_whole α) := by
  obtain ⟨x, rfl, ht, hq⟩ := h
  unfold ws_is_whole
  cases x <;> (first | cases ht; done | (walk_at "wp"; exact hq))
def LETT : Str := "abcdefghijklmnopqrstuvwxyz"
def letterIn (x : Str) : Bool := !(Builtin.Str.occurrences LETT x 0 LETT.length 1).isEmpty
def charsS (z : Str) : List Str := z.cps.toList.map fun c => ⟨#[c]⟩
theorem charsD_eq (z : Str) : charsD z = (charsS z).map D.str := by
  unfold charsD charsS
  rw [List.map_map]
  rfl
theorem charsS_len (z : Str) : (charsS z).length = z.length := by unfold charsS; rw [List.length_map, Array.length_toList]; rfl
def nameB (s : Str) : Bool := decide (1 ≤ s.length) && decide (s.length ≤ 8) && (charsS s).all letterIn
theorem nameB_len {s : Str} (h : nameB s = true) : 1 ≤ s.length ∧ s.length ≤ 8 := by
  unfold nameB at h
  simp only [Bool.and_eq_true, decide_eq_true_eq] at h
  exact h.1
def isName : D → Bool
  | .str z => nameB z
  | _ => false
def ds_is_name : DSp := fun α Q _ => ∃ x : D, α = [some (.d x)] ∧ vld x = true ∧ Q (.d (.bl (isName x))) α
theorem len_is_name (α : Dl) (Q : SD → Dl → Prop) (E : XQ) (h : ds_is_name α Q E) : α.length = 1 ∧ ∀ (i : Nat) (c : Cn), α[i]? ≠ some (some (.o c)) := by
  obtain ⟨n, rfl, _⟩ := h
  exact lenOf rfl rfl
theorem law_is_name (α : Dl) (Q : SD → Dl → Prop) (E : XQ) (h : ds_is_name α Q E) : ws_is_name { nx := finD α Q (.d .non), rt := finD α Q } (finE α E) (startD N_is_name α) := by
  obtain ⟨x, rfl, ht, hq⟩ := h
  unfold ws_is_name
  cases x with
  | str z =>
    have zs : z.length ≤ 10000 := by simpa [vld] using ht
    walk_at "wp"
    refine ⟨by omega, ?_⟩
    replace hq : Q (.d (.bl (nameB z))) [some (.d (.str z))] := hq
    unfold nameB at hq
    by_cases c1 : (1 : Int) ≤ (z.length : Nat)
    · by_cases c2 : ((z.length : Nat) : Int) ≤ 8
      · rw [decide_eq_true (by omega : 1 ≤ z.length), decide_eq_true (by omega : z.length ≤ 8)] at hq
        simp only [c1, c2, if_true, not_true_eq_false, if_false]
        unfold ws_is_name_t1
        walk_at "wp"
        refine lc_filter (charsS z) .str (fun x => !letterIn x) (fun Q h => by walk_at "wp"; rw [charsD_eq]; exact h) (by rw [charsS_len]; omega) (okW_of rfl) (fun y hy R S hR hS => ?_) ?_
        · walk_at "wp"
          have e : letterIn y = !(Builtin.Str.occurrences LETT y 0 LETT.length 1).isEmpty := rfl
          unfold LETT at e
          rw [e] at hR hS
          split
          · rename_i c; exact hR (by rw [c]; rfl)
          · rename_i c; exact hS (by rw [Bool.eq_false_iff.mpr c]; rfl)
        · walk_at "wp"
          exact hq
      · rw [decide_eq_false (by omega : ¬ z.length ≤ 8)] at hq
        simp only [c1, c2, if_true, not_false_eq_true]
        simpa using hq
    · rw [decide_eq_false (by omega : ¬ 1 ≤ z.length)] at hq
      simp only [c1, if_false, Bool.false_eq_true, not_false_eq_true, if_true]
      simpa using hq
  | _ => first | cases ht; done | (walk_at "wp"; exact hq)
def areNames : D → Bool
  | .lst xs => match strs? xs with
    | some ss => ss.all nameB && decide ss.Nodup
    | none => false
  | _ => false
theorem areNames_sL (ss : List Str) : areNames (.lst (ss.map .str)) = (ss.all nameB && decide ss.Nodup) := by
  unfold areNames
  simp only
  rw [strs?_map]
theorem areNames_inv {x : D} (h : areNames x = true) : ∃ ss : List Str, x = sL ss ∧ (∀ s ∈ ss, nameB s = true) ∧ ss.Nodup := by
  cases x with
  | lst xs =>
    unfold areNames at h
    simp only at h
    split at h
    · rename_i ss e
      simp only [Bool.and_eq_true, List.all_eq_true, decide_eq_true_eq] at h
      exact ⟨ss, by rw [strs?_of e], h⟩
    · cases h
  | _ => cases h
theorem all_isName : ∀ xs : List D, xs.all isName = true → ∃ ss : List Str, xs = ss.map .str ∧ (∀ s ∈ ss, nameB s = true)
  | [], _ => ⟨[], rfl, fun _ h => nomatch h⟩
  | x :: xs, h => by
    simp only [List.all_cons, Bool.and_eq_true] at h
    obtain ⟨ss, rfl, hs⟩ := all_isName xs h.2
    cases x with
    | str z => exact ⟨z :: ss, rfl, fun s hs' => by
        rcases List.mem_cons.mp hs' with rfl | hs'
        · exact h.1
        · exact hs s hs'⟩
    | _ => cases h.1
theorem not_all_isName {xs : List D} (h : xs.all isName = false) : areNames (.lst xs) = false := by
  cases e : areNames (.lst xs) with
  | false => rfl
  | true =>
    obtain ⟨ss, e1, e2, _⟩ := areNames_inv e
    injection e1 with e1
    subst e1
    have : (ss.map D.str).all isName = true := by
      rw [List.all_eq_true]
      intro d hd
      obtain ⟨s, hs, rfl⟩ := List.mem_map.mp hd
      exact e2 s hs
    rw [h] at this; cases this
theorem once_nodup : ∀ (xs acc : List Str), acc.Nodup → (((xs.foldl TX.once acc).length = acc.length + xs.length) ↔ (acc ++ xs).Nodup)
  | [], acc, h => by simpa using h
  | x :: xs, acc, h => by
    rw [List.foldl_cons]
    unfold TX.once
    by_cases hx : x ∈ acc
    · rw [if_pos hx]
      have h1 := TX.once_fold xs acc
      constructor
      · intro e
        rw [List.length_cons] at e
        have e' : (xs.foldl TX.once acc).length = acc.length + (xs.length + 1) := e
        omega
      · intro nd
        have := (List.nodup_append.mp nd).2.2 x hx x List.mem_cons_self
        exact absurd rfl this
    · rw [if_neg hx]
      have h1 : (acc ++ [x]).Nodup := by
        rw [List.nodup_append]
        exact ⟨h, by simp, fun a ha b hb => by rw [List.mem_singleton.mp hb]; exact fun z => hx (z ▸ ha)⟩
      have := once_nodup xs (acc ++ [x]) h1
      rw [List.append_assoc, List.singleton_append, List.length_append, List.length_singleton] at this
      rw [← this, List.length_cons]
      have e : acc.length + 1 + xs.length = acc.length + (xs.length + 1) := by omega
      rw [e]
      exact Iff.rfl
theorem onceOf_nodup (xs : List Str) : (TX.onceOf xs).length = xs.length ↔ xs.Nodup := by
  have := once_nodup xs [] List.nodup_nil
  simpa [TX.onceOf] using this
def ds_are_names : DSp := fun α Q _ => ∃ x : D, α = [some (.d x)] ∧ vld x = true ∧ Q (.d (.bl (areNames x))) α
theorem len_are_names (α : Dl) (Q : SD → Dl → Prop) (E : XQ) (h : ds_are_names α Q E) : α.length = 1 ∧ ∀ (i : Nat) (c : Cn), α[i]? ≠ some (some (.o c)) := by
  obtain ⟨n, rfl, _⟩ := h
  exact lenOf rfl rfl
theorem law_are_names (α : Dl) (Q : SD → Dl → Prop) (E : XQ) (h : ds_are_names α Q E) : ws_are_names ds_is_name { nx := finD α Q (.d .non), rt := finD α Q } (finE α E) (startD N_are_names α) := by
  obtain ⟨x, rfl, ht, hq⟩ := h
  unfold ws_are_names
  cases x with
  | lst xs =>
    obtain ⟨hl, hv⟩ := vld_lst ht
    walk_at "wp"
    refine lc_filterD xs (fun x => !isName x) (fun Q h => by walk_at "wp"; exact h) (by omega) (okW_of rfl) (fun y hy R S hR hS => ?_) ?_
    · walk_at "wp"
      refine ⟨y, rfl, hv y hy, ?_⟩
      walk_at "wp"
      cases hb : isName y with
      | true => simpa [hb] using hS
      | false => simpa [hb] using hR
    · walk_at "wp"
      cases c : xs.all isName with
      | true =>
        obtain ⟨ss, rfl, hn⟩ := all_isName xs c
        simp only [Bool.true_eq_false, if_false]
        unfold ws_are_names_t1
        walk_at "wp"
        unfold wLenW
        walk_at "wp"
        refine ⟨ss, rfl, by simpa using hl, ?_⟩
        rw [areNames_sL] at hq
        have h1 : ss.all nameB = true := List.all_eq_true.mpr hn
        have h2 : decide (((TX.onceOf ss).length : Int) = (ss.length : Int)) = decide ss.Nodup := by
          congr 1
          rw [← onceOf_nodup ss]
          exact propext ⟨fun h => by omega, fun h => by omega⟩
        rw [h1, Bool.true_and] at hq
        rw [h2]
        exact hq
      | false =>
        simp only [if_true]
        rw [not_all_isName c] at hq
        exact hq
  | _ => first | cases ht; done | (walk_at "wp"; exact hq)
def ds_check_name (K : PySem.W.Frag) : DSp := fun α Q E => ∃ x : D, α = [some (.d x)] ∧ vld x = true ∧ (isName x = true → Q (.d .non) α) ∧ (isName x = false → E (ad K "InvalidName") "value" x α)
theorem len_check_name (K : PySem.W.Frag) (α : Dl) (Q : SD → Dl → Prop) (E : XQ) (h : ds_check_name K α Q E) : α.length = 1 ∧ ∀ (i : Nat) (c : Cn), α[i]? ≠ some (some (.o c)) := by
  obtain ⟨n, rfl, _⟩ := h
  exact lenOf rfl rfl
theorem law_check_name (K : PySem.W.Frag) (α : Dl) (Q : SD → Dl → Prop) (E : XQ) (h : ds_check_name K α Q E) : ws_check_name ds_is_name (ad K "InvalidName") { nx := finD α Q (.d .non), rt := finD α Q } (finE α E) (startD N_check_name α) := by
  obtain ⟨x, rfl, ht, h1, h2⟩ := h
  unfold ws_check_name
  walk_at "wp"
  refine ⟨x, rfl, ht, ?_⟩
  walk_at "wp"
  cases e : isName x with
  | true => simpa using h1 e
  | false => simpa using h2 e
def ds_check_whole (K : PySem.W.Frag) : DSp := fun α Q E => ∃ x : D, α = [some (.d x)] ∧ vld x = true ∧ (isWhole x = true → Q (.d .non) α) ∧ (isWhole x = false → E (ad K "InvalidNumber") "value" x α)
theorem len_check_whole (K : PySem.W.Frag) (α : Dl) (Q : SD → Dl → Prop) (E : XQ) (h : ds_check_whole K α Q E) : α.length = 1 ∧ ∀ (i : Nat) (c : Cn), α[i]? ≠ some (some (.o c)) := by
  obtain ⟨n, rfl, _⟩ := h
  exact lenOf rfl rfl
theorem law_check_whole (K : PySem.W.Frag) (α : Dl) (Q : SD → Dl → Prop) (E : XQ) (h : ds_check_whole K α Q E) : ws_check_whole ds_is_whole (ad K "InvalidNumber") { nx := finD α Q (.d .non), rt := finD α Q } (finE α E) (startD N_check_whole α) := by
  obtain ⟨x, rfl, ht, h1, h2⟩ := h
  unfold ws_check_whole
  walk_at "wp"
  refine ⟨x, rfl, ht, ?_⟩
  walk_at "wp"
  cases e : isWhole x with
  | true => simpa using h1 e
  | false => simpa using h2 e
end Sp
namespace Sp
open PySem L2 DL
local macro_rules | `(tactic| walk_at "wp") => `(tactic| simp only [wSeq, wIf, wAnd, wOr, wNot, vAnd, vOr, vNot, wB, wBin, wChain, wRet, wRetN, wNext, wNever, wIfE, eF, fO, fS, wNeg, wC, wVar, oVar, wDrop, wSet, wNil, wCons, wLst, wTup, wCall, wFn, wFnP,  wTwo, wThree, wPar, wPar3, wUn, wgN, wgTup, wgCons, wgNil, wAugI, wIsN, sIsN, nonB, wXf, wRaise, wMet, tyOk, sLen, sToInt, sList, sListD, sTuple, sAdd, sInt, sInt0, sIn, sEq, sEqD, sEqX_nil, sEqX_str, sEqX_int, sEqX_bl, sEqX_non, sEqX_sL, sEqX_iL, sEqX_sT, List.isEmpty_map, flt_all, List.isEmpty_nil, List.isEmpty_cons, sIx, sCut, wCut, wNoP, wSoP, wYes, wBreak, wCont, wApp, wPut, wFld, wMeth, wMake, wSetF, putD, nons, wIxD, wInD, wGet2, wNewD, wPutD, wEqO, wMin2, wMax2, wMaxLen, wRev, keyD,  wiSeq, wiTup, wiStr, wiRng1, wiRng2, wiEnum, outSlot,  view, SD.fz, Cn.fz, D.strip, asB, ownOf, keepKind, argsD, finD, finE, backD, startD, wipeD, unblk,  isi_list_lst, isi_list_tup, isi_list_str, isi_list_int, isi_list_bl, isi_list_non, isi_list_dic, isi_tup_lst, isi_tup_tup, isi_tup_str, isi_tup_int, isi_tup_bl, isi_tup_non, isi_tup_dic, isi_str_lst, isi_str_tup, isi_str_str, isi_str_int, isi_str_bl, isi_str_non, isi_str_dic,  isi_int_lst, isi_int_tup, isi_int_str, isi_int_int, isi_int_bl, isi_int_non, isi_int_dic, isi_bl_lst, isi_bl_tup, isi_bl_str, isi_bl_int, isi_bl_bl, isi_bl_non, isi_bl_dic,  eqOk_str, eqOk_int, eqOk_bl, eqOk_non, eqOk_sL, eqOk_iL, eqOk_nil, eqOk_nilT, deq_str, deq_int, deq_non, deq_sL, deq_iL, deq_sL_nil, deq_iL_nil, dmem_str, dmem_int, some_strs, some_ints, sIndex_str, sIndex_int, sJoin_str, sSum_int, sSorted_str, sSorted_int, keys_I, keys_S, valG_I, valG_S, putG_I, putG_S, encA_len, Option.isSome_map, PySem.sizeLine_eq,  List.getElem?_cons_succ, List.getElem?_cons_zero, List.getElem?_nil, List.set_cons_succ, List.set_cons_zero, List.length_cons, List.length_nil, List.length_map, List.length_append, List.map_cons, List.map_nil, List.cons_append, List.nil_append, List.replicate_succ, List.replicate_zero, List.getD_cons_succ, List.getD_cons_zero, List.lookup_cons, List.lookup_nil, nm_players_crew, nm_moments_crew, nm_tops_crew, nm_above_crew, nm_check_moment_crew, nm_with_look_crew, nm_all_looks_crew, nm_until_crew, nm_renamed_crew, nm_is_pair_crew, nm_rows_crew, nm_least_at_crew, nm_most_at_crew, nm_seen_crew, nm_folk_crew, nm_shown_crew, nm_notes_crew, nm_count_crew, nm_total_crew, nm_look_crew, nm_undo_crew, nm_copy_crew, nm_sight_crew, nm_players_seen, nm_moments_seen, nm_tops_seen, nm_above_seen, nm_check_moment_seen, nm_with_look_seen, nm_all_looks_seen, nm_until_seen, nm_renamed_seen, nm_is_pair_seen, nm_rows_seen, nm_least_at_seen, nm_most_at_seen, nm_crew_seen, nm_folk_seen, nm_shown_seen, nm_notes_seen, nm_count_seen, nm_total_seen, nm_look_seen, nm_undo_seen, nm_copy_seen, nm_sight_seen, nm_players_folk, nm_moments_folk, nm_tops_folk, nm_above_folk, nm_check_moment_folk, nm_with_look_folk, nm_all_looks_folk, nm_until_folk, nm_renamed_folk, nm_is_pair_folk, nm_rows_folk, nm_least_at_folk, nm_most_at_folk, nm_crew_folk, nm_seen_folk, nm_shown_folk, nm_notes_folk, nm_count_folk, nm_total_folk, nm_look_folk, nm_undo_folk, nm_copy_folk, nm_sight_folk, nm_players_shown, nm_moments_shown, nm_tops_shown, nm_above_shown, nm_check_moment_shown, nm_with_look_shown, nm_all_looks_shown, nm_until_shown, nm_renamed_shown, nm_is_pair_shown, nm_rows_shown, nm_least_at_shown, nm_most_at_shown, nm_crew_shown, nm_seen_shown, nm_folk_shown, nm_notes_shown, nm_count_shown, nm_total_shown, nm_look_shown, nm_undo_shown, nm_copy_shown, nm_sight_shown, nm_players_notes, nm_moments_notes, nm_tops_notes, nm_above_notes, nm_check_moment_notes, nm_with_look_notes, nm_all_looks_notes, nm_until_notes, nm_renamed_notes, nm_is_pair_notes, nm_rows_notes, nm_least_at_notes, nm_most_at_notes, nm_crew_notes, nm_seen_notes, nm_folk_notes, nm_shown_notes, nm_count_notes, nm_total_notes, nm_look_notes, nm_undo_notes, nm_copy_notes, nm_sight_notes,  Nat.reduceAdd, Nat.reduceSub, Nat.reduceLT, Nat.reduceLeDiff, Nat.reduceMul, Nat.reduceEqDiff, Nat.zero_add, Nat.add_zero, Nat.lt_add_left_iff_pos, Nat.le_add_left, Nat.zero_le, Nat.zero_lt_succ, Nat.succ_lt_succ_iff,  Cn.l.injEq, Cn.k.injEq, true_and, and_true, exists_eq', exists_eq_left', Option.some.injEq, Option.map_some, Option.map_none, Option.bind_some, Option.isSome_some, Option.isSome_none,  decide_eq_true_eq, Bool.false_eq_true, Bool.not_eq_true', Bool.not_true, Bool.not_false, Bool.not_not, Bool.true_xor, Bool.false_xor, decide_eq_false_iff_not, if_true, if_false, ite_true, ite_false, reduceIte, reduceCtorEq, decide_true, decide_false, decide_not, and_self, eq_self, ne_eq, not_true, not_false_eq_true, exists_const, and_imp, beq_self_eq_true])
local macro_rules | `(tactic| walk_at "wq") => `(tactic| try walk_at "wp")
local macro_rules | `(tactic| walk_at "w1") => `(tactic| simp only [wSeq_k, wIf, wAnd, wOr, wNot, vAnd, vOr, vNot, wB, wBin, wChain, wRet, wRetN, wNext, wNever, wIfE, eF, fO, fS, wNeg, wC, wVar, oVar, wDrop, wSet, wNil, wCons, wLst, wTup, wCall, wFn, wFnP,  wTwo, wThree, wPar, wPar3, wUn, wgN, wgTup, wgCons, wgNil, wAugI, wIsN, sIsN, nonB, wXf, wRaise, wMet, tyOk, sLen, sToInt, sList, sListD, sTuple, sAdd, sInt, sInt0, sIn, sEq, sEqD, sEqX_nil, sEqX_str, sEqX_int, sEqX_bl, sEqX_non, sEqX_sL, sEqX_iL, sEqX_sT, List.isEmpty_map, flt_all, List.isEmpty_nil, List.isEmpty_cons, sIx, sCut, wCut, wNoP, wSoP, wYes, wBreak, wCont, wApp, wPut, wFld, wMeth, wMake, wSetF, putD, nons, wIxD, wInD, wGet2, wNewD, wPutD, wEqO, wMin2, wMax2, wMaxLen, wRev, keyD,  wiSeq, wiTup, wiStr, wiRng1, wiRng2, wiEnum, outSlot,  view, SD.fz, Cn.fz, D.strip, asB, ownOf, keepKind, argsD, finD, finE, backD, startD, wipeD, unblk,  isi_list_lst, isi_list_tup, isi_list_str, isi_list_int, isi_list_bl, isi_list_non, isi_list_dic, isi_tup_lst, isi_tup_tup, isi_tup_str, isi_tup_int, isi_tup_bl, isi_tup_non, isi_tup_dic, isi_str_lst, isi_str_tup, isi_str_str, isi_str_int, isi_str_bl, isi_str_non, isi_str_dic,  isi_int_lst, isi_int_tup, isi_int_str, isi_int_int, isi_int_bl, isi_int_non, isi_int_dic, isi_bl_lst, isi_bl_tup, isi_bl_str, isi_bl_int, isi_bl_bl, isi_bl_non, isi_bl_dic,  eqOk_str, eqOk_int, eqOk_bl, eqOk_non, eqOk_sL, eqOk_iL, eqOk_nil, eqOk_nilT, deq_str, deq_int, deq_non, deq_sL, deq_iL, deq_sL_nil, deq_iL_nil, dmem_str, dmem_int, some_strs, some_ints, sIndex_str, sIndex_int, sJoin_str, sSum_int, sSorted_str, sSorted_int, keys_I, keys_S, valG_I, valG_S, putG_I, putG_S, encA_len, Option.isSome_map, PySem.sizeLine_eq,  List.getElem?_cons_succ, List.getElem?_cons_zero, List.getElem?_nil, List.set_cons_succ, List.set_cons_zero, List.length_cons, List.length_nil, List.length_map, List.length_append, List.map_cons, List.map_nil, List.cons_append, List.nil_append, List.replicate_succ, List.replicate_zero, List.getD_cons_succ, List.getD_cons_zero, List.lookup_cons, List.lookup_nil, nm_players_crew, nm_moments_crew, nm_tops_crew, nm_above_crew, nm_check_moment_crew, nm_with_look_crew, nm_all_looks_crew, nm_until_crew, nm_renamed_crew, nm_is_pair_crew, nm_rows_crew, nm_least_at_crew, nm_most_at_crew, nm_seen_crew, nm_folk_crew, nm_shown_crew, nm_notes_crew, nm_count_crew, nm_total_crew, nm_look_crew, nm_undo_crew, nm_copy_crew, nm_sight_crew, nm_players_seen, nm_moments_seen, nm_tops_seen, nm_above_seen, nm_check_moment_seen, nm_with_look_seen, nm_all_looks_seen, nm_until_seen, nm_renamed_seen, nm_is_pair_seen, nm_rows_seen, nm_least_at_seen, nm_most_at_seen, nm_crew_seen, nm_folk_seen, nm_shown_seen, nm_notes_seen, nm_count_seen, nm_total_seen, nm_look_seen, nm_undo_seen, nm_copy_seen, nm_sight_seen, nm_players_folk, nm_moments_folk, nm_tops_folk, nm_above_folk, nm_check_moment_folk, nm_with_look_folk, nm_all_looks_folk, nm_until_folk, nm_renamed_folk, nm_is_pair_folk, nm_rows_folk, nm_least_at_folk, nm_most_at_folk, nm_crew_folk, nm_seen_folk, nm_shown_folk, nm_notes_folk, nm_count_folk, nm_total_folk, nm_look_folk, nm_undo_folk, nm_copy_folk, nm_sight_folk, nm_players_shown, nm_moments_shown, nm_tops_shown, nm_above_shown, nm_check_moment_shown, nm_with_look_shown, nm_all_looks_shown, nm_until_shown, nm_renamed_shown, nm_is_pair_shown, nm_rows_shown, nm_least_at_shown, nm_most_at_shown, nm_crew_shown, nm_seen_shown, nm_folk_shown, nm_notes_shown, nm_count_shown, nm_total_shown, nm_look_shown, nm_undo_shown, nm_copy_shown, nm_sight_shown, nm_players_notes, nm_moments_notes, nm_tops_notes, nm_above_notes, nm_check_moment_notes, nm_with_look_notes, nm_all_looks_notes, nm_until_notes, nm_renamed_notes, nm_is_pair_notes, nm_rows_notes, nm_least_at_notes, nm_most_at_notes, nm_crew_notes, nm_seen_notes, nm_folk_notes, nm_shown_notes, nm_count_notes, nm_total_notes, nm_look_notes, nm_undo_notes, nm_copy_notes, nm_sight_notes,  Nat.reduceAdd, Nat.reduceSub, Nat.reduceLT, Nat.reduceLeDiff, Nat.reduceMul, Nat.reduceEqDiff, Nat.zero_add, Nat.add_zero, Nat.lt_add_left_iff_pos, Nat.le_add_left, Nat.zero_le, Nat.zero_lt_succ, Nat.succ_lt_succ_iff,  Cn.l.injEq, Cn.k.injEq, true_and, and_true, exists_eq', exists_eq_left', Option.some.injEq, Option.map_some, Option.map_none, Option.bind_some, Option.isSome_some, Option.isSome_none,  decide_eq_true_eq, Bool.false_eq_true, Bool.not_eq_true', Bool.not_true, Bool.not_false, Bool.not_not, Bool.true_xor, Bool.false_xor, decide_eq_false_iff_not, if_true, if_false, ite_true, ite_false, reduceIte, reduceCtorEq, decide_true, decide_false, decide_not, and_self, eq_self, ne_eq, not_true, not_false_eq_true, exists_const, and_imp, beq_self_eq_true])
local macro_rules | `(tactic| walk_at "ws") => `(tactic| repeat (first | refine kont_intro ?_ | walk_at "w1"))
theorem atI_0 {α : Type} {a : α} {r : List α} : L2.atI (a :: r) 0 = some a := L2.atI_nat (j := 0) rfl
theorem atI_1 {α : Type} {a b : α} {r : List α} : L2.atI (a :: b :: r) 1 = some b := L2.atI_nat (j := 1) rfl
def Crew (ps : List Str) (c : D) : Prop := c = .tup (ps.map .str) ∨ c = .lst (ps.map .str)
def isTops (ps : List Str) : D → Bool
  | .lst xs => match strs? xs with
    | some ss => (ss.all nameB && decide ss.Nodup) && ss.all fun s => decide (s ∈ ps)
    | none => false
  | _ => false
theorem isTops_sL (ps ss : List Str) : isTops ps (.lst (ss.map .str)) = ((ss.all nameB && decide ss.Nodup) && ss.all fun s => decide (s ∈ ps)) := by
  unfold isTops
  simp only
  rw [strs?_map]
theorem isTops_no {ps : List Str} {x : D} (h : areNames x = false) : isTops ps x = false := by
  cases x with
  | lst xs =>
    unfold areNames at h
    unfold isTops
    simp only at h ⊢
    split
    · rename_i ss e
      rw [e] at h
      simp only at h
      rw [h]; rfl
    · rfl
  | _ => rfl
theorem isTops_inv {ps : List Str} {x : D} (h : isTops ps x = true) : ∃ ss : List Str, x = sL ss ∧ (∀ s ∈ ss, nameB s = true) ∧ ss.Nodup ∧ ∀ s ∈ ss, s ∈ ps := by
  cases x with
  | lst xs =>
    unfold isTops at h
    simp only at h
    split at h
    · rename_i ss e
      simp only [Bool.and_eq_true, List.all_eq_true, decide_eq_true_eq] at h
      exact ⟨ss, by rw [strs?_of e], h.1.1, h.1.2, h.2⟩
    · cases h
  | _ => cases h
def ds_is_tops : DSp := fun α Q _ => ∃ (x c : D) (ps : List Str), α = [some (.d x), some (.d c)] ∧ vld x = true ∧ Crew ps c ∧ Q (.d (.bl (isTops ps x))) α
theorem len_is_tops (α : Dl) (Q : SD → Dl → Prop) (E : XQ) (h : ds_is_tops α Q E) : α.length = 2 ∧ ∀ (i : Nat) (c : Cn), α[i]? ≠ some (some (.o c)) := by
  obtain ⟨x, c, ps, rfl, _⟩ := h
  exact lenOf rfl rfl
theorem law_is_tops (α : Dl) (Q : SD → Dl → Prop) (E : XQ) (h : ds_is_tops α Q E) : ws_is_tops ds_are_names { nx := finD α Q (.d .non), rt := finD α Q } (finE α E) (startD N_is_tops α) := by
  obtain ⟨x, c, ps, rfl, hv, hc, hq⟩ := h
  unfold ws_is_tops
  walk_at "wp"
  refine ⟨x, rfl, hv, ?_⟩
  walk_at "wp"
  cases e : areNames x with
  | false =>
    rw [isTops_no e] at hq
    simpa using hq
  | true =>
    obtain ⟨ss, rfl, hn, nd⟩ := areNames_inv e
    have hl := (vld_lst hv).1
    rw [List.length_map] at hl
    simp only [if_true]
    rw [isTops_sL, show (ss.all nameB && decide ss.Nodup) = true from by rw [← areNames_sL]; exact e, Bool.true_and] at hq
    refine lc_filter ss .str (fun s => !decide (s ∈ ps)) (fun Q h => by walk_at "wp"; exact h) (by omega) (okW_of rfl) (fun y hy R S hR hS => ?_) ?_
    · rcases hc with rfl | rfl
      · walk_at "wp"
        by_cases q : y ∈ ps <;> simp only [q, decide_true, decide_false, Bool.not_true, Bool.not_false, if_true, if_false, not_true_eq_false, not_false_eq_true] at hR hS ⊢
        · exact hS trivial
        · exact hR trivial
      · walk_at "wp"
        by_cases q : y ∈ ps <;> simp only [q, decide_true, decide_false, Bool.not_true, Bool.not_false, if_true, if_false, not_true_eq_false, not_false_eq_true] at hR hS ⊢
        · exact hS trivial
        · exact hR trivial
    · walk_at "wp"
      exact hq
def arePlayers (x : D) : Bool := areNames x && match x with
  | .lst [] => false
  | _ => true
def ds_are_players : DSp := fun α Q _ => ∃ x : D, α = [some (.d x)] ∧ vld x = true ∧ Q (.d (.bl (arePlayers x))) α
theorem len_are_players (α : Dl) (Q : SD → Dl → Prop) (E : XQ) (h : ds_are_players α Q E) : α.length = 1 ∧ ∀ (i : Nat) (c : Cn), α[i]? ≠ some (some (.o c)) := by
  obtain ⟨x, rfl, _⟩ := h
  exact lenOf rfl rfl
theorem law_are_players (α : Dl) (Q : SD → Dl → Prop) (E : XQ) (h : ds_are_players α Q E) : ws_are_players ds_are_names { nx := finD α Q (.d .non), rt := finD α Q } (finE α E) (startD N_are_players α) := by
  obtain ⟨x, rfl, hv, hq⟩ := h
  unfold ws_are_players
  walk_at "wp"
  refine ⟨x, rfl, hv, ?_⟩
  walk_at "wp"
  unfold arePlayers at hq
  cases e : areNames x with
  | false =>
    rw [e] at hq
    simpa using hq
  | true =>
    obtain ⟨ss, rfl, _⟩ := areNames_inv e
    rw [e] at hq
    simp only [if_true]
    walk_at "wp"
    cases ss with
    | nil => exact hq
    | cons s r => exact hq
theorem arePlayers_inv {x : D} (h : arePlayers x = true) : ∃ ss : List Str, x = sL ss ∧ (∀ s ∈ ss, nameB s = true) ∧ ss.Nodup ∧ ss ≠ [] := by
  unfold arePlayers at h
  obtain ⟨h1, h2⟩ := Bool.and_eq_true_iff.mp h
  obtain ⟨ss, rfl, h3, h4⟩ := areNames_inv h1
  exact ⟨ss, rfl, h3, h4, fun e => by subst e; cases h2⟩
theorem arePlayers_of {ss : List Str} (h1 : ∀ s ∈ ss, nameB s = true) (h2 : ss.Nodup) (h3 : ss ≠ []) : arePlayers (sL ss) = true := by
  unfold arePlayers
  rw [areNames_sL, List.all_eq_true.mpr h1, decide_eq_true h2]
  cases ss with
  | nil => exact absurd rfl h3
  | cons s r => rfl
def strsOf : D → List Str
  | .lst xs => (strs? xs).getD []
  | _ => []
theorem strsOf_sL (ss : List Str) : strsOf (sL ss) = ss := by
  show (strs? (ss.map .str)).getD [] = ss
  rw [strs?_map]; rfl
def lookOf (ps : List Str) : D → Option (Int × List Str)
  | .tup [.int m, t] => if isTops ps t then some (m, strsOf t) else none
  | _ => none
theorem lookOf_inv {ps : List Str} {x : D} {m : Int} {t : List Str} (h : lookOf ps x = some (m, t)) : x = .tup [.int m, sL t] ∧ isTops ps (sL t) = true := by
  unfold lookOf at h
  split at h
  · rename_i m' t'
    split at h
    · rename_i hk
      obtain ⟨ss, rfl, _⟩ := isTops_inv hk
      rw [strsOf_sL] at h
      cases h
      exact ⟨rfl, hk⟩
    · cases h
  · cases h
def ds_is_look : DSp := fun α Q _ => ∃ (x c : D) (ps : List Str), α = [some (.d x), some (.d c)] ∧ vld x = true ∧ Crew ps c ∧ Q (.d (.bl (lookOf ps x).isSome)) α
theorem len_is_look (α : Dl) (Q : SD → Dl → Prop) (E : XQ) (h : ds_is_look α Q E) : α.length = 2 ∧ ∀ (i : Nat) (c : Cn), α[i]? ≠ some (some (.o c)) := by
  obtain ⟨x, c, ps, rfl, _⟩ := h
  exact lenOf rfl rfl
theorem law_is_look (α : Dl) (Q : SD → Dl → Prop) (E : XQ) (h : ds_is_look α Q E) : ws_is_look ds_is_tops ds_is_whole { nx := finD α Q (.d .non), rt := finD α Q } (finE α E) (startD N_is_look α) := by
  obtain ⟨x, c, ps, rfl, hv, hc, hq⟩ := h
  unfold ws_is_look
  cases x with
  | tup xs =>
    obtain ⟨_, hall⟩ := vld_tup hv
    rcases xs with _ | ⟨a, _ | ⟨b, _ | ⟨d, r⟩⟩⟩
    · walk_at "wp"
      simpa [lookOf] using hq
    · walk_at "wp"
      simpa [lookOf] using hq
    · walk_at "wp"
      simp only [atI_0, atI_1]
      have hb := hall b (by simp)
      rw [if_pos (by decide)]
      refine ⟨a, rfl, hall a (by simp), ?_⟩
      walk_at "wp"
      cases a with
      | int m =>
        simp only [isWhole, if_true]
        refine ⟨b, c, ps, rfl, hb, hc, ?_⟩
        have e : (lookOf ps (.tup [.int m, b])).isSome = isTops ps b := by
          unfold lookOf
          cases e : isTops ps b <;> simp [e]
        rw [e] at hq
        exact hq
      | _ => simpa [isWhole, lookOf] using hq
    · walk_at "wp"
      have e : lookOf ps (.tup (a :: b :: d :: r)) = none := by simp [lookOf]
      rw [e] at hq
      have e2 : decide ((((r.length + 1 + 1 + 1 : Nat)) : Int) = 2) = false := decide_eq_false (by omega)
      rw [if_neg (by omega)]
      exact hq
  | _ => first | cases hv; done | (walk_at "wp"; exact hq)
def goTog (a b : List Str) : Bool := decide (a.take b.length = b.take a.length)
def ds_go_together : DSp := fun α Q _ => ∃ a b : List Str, α = [some (.d (sL a)), some (.d (sL b))] ∧ Q (.d (.bl (goTog a b))) α
theorem len_go_together (α : Dl) (Q : SD → Dl → Prop) (E : XQ) (h : ds_go_together α Q E) : α.length = 2 ∧ ∀ (i : Nat) (c : Cn), α[i]? ≠ some (some (.o c)) := by
  obtain ⟨x, c, rfl, _⟩ := h
  exact lenOf rfl rfl
theorem law_go_together (α : Dl) (Q : SD → Dl → Prop) (E : XQ) (h : ds_go_together α Q E) : ws_go_together { nx := finD α Q (.d .non), rt := finD α Q } (finE α E) (startD N_go_together α) := by
  obtain ⟨a, b, rfl, hq⟩ := h
  unfold ws_go_together
  walk_at "wp"
  rw [cut_map, cut_map, cut_to _ (by omega), cut_to _ (by omega)]
  walk_at "wp"
  exact hq
def knownAbove (tops : List Str) (a b : Str) : Option Bool := if a ∈ tops then (if b ∈ tops then some (decide (tops.idxOf a < tops.idxOf b)) else some true) else if b ∈ tops then some false else none
def optB : Option Bool → D
  | some b => .bl b
  | none => .non
def ds_known_above : DSp := fun α Q _ => ∃ (tops : List Str) (a b : Str), α = [some (.d (sL tops)), some (.d (.str a)), some (.d (.str b))] ∧ Q (.d (optB (knownAbove tops a b))) α
theorem len_known_above (α : Dl) (Q : SD → Dl → Prop) (E : XQ) (h : ds_known_above α Q E) : α.length = 3 ∧ ∀ (i : Nat) (c : Cn), α[i]? ≠ some (some (.o c)) := by
  obtain ⟨x, c, d, rfl, _⟩ := h
  exact lenOf rfl rfl
theorem law_known_above (α : Dl) (Q : SD → Dl → Prop) (E : XQ) (h : ds_known_above α Q E) : ws_known_above { nx := finD α Q (.d .non), rt := finD α Q } (finE α E) (startD N_known_above α) := by
  obtain ⟨tops, a, b, rfl, hq⟩ := h
  unfold ws_known_above ws_known_above_t1 ws_known_above_t2
  walk_at "wp"
  unfold knownAbove at hq
  by_cases ha : a ∈ tops <;> by_cases hb : b ∈ tops <;> simp only [ha, hb, if_true, if_false, true_and] at hq ⊢
  · have e : decide (((tops.idxOf a : Nat) : Int) < ((tops.idxOf b : Nat) : Int)) = decide (tops.idxOf a < tops.idxOf b) := by
      congr 1
      exact propext ⟨fun h => by omega, fun h => by omega⟩
    rw [e]
    exact hq
  · exact hq
  · exact hq
  · exact hq
def seenStep (ps : List Str) (f : List (Int × List Str)) (x : D) : Option (List (Int × List Str)) := match lookOf ps x with
  | some (m, t) => if goTog ((lookA f m).getD []) t then some (putA f m (if t.length > ((lookA f m).getD []).length then t else (lookA f m).getD [])) else none
  | none => none
def seenIn (ps : List Str) : List D → List (Int × List Str) → Except D (List (Int × List Str))
  | [], f => .ok f
  | x :: r, f => match seenStep ps f x with
    | some f' => seenIn ps r f'
    | none => .error x
theorem seenIn_cons (ps : List Str) (x : D) (r : List D) (f : List (Int × List Str)) : seenIn ps (x :: r) f = match seenStep ps f x with
    | some f' => seenIn ps r f'
    | none => .error x := rfl
theorem seenIn_app (ps : List Str) : ∀ (xs ys : List D) (f : List (Int × List Str)), seenIn ps (xs ++ ys) f = match seenIn ps xs f with
    | .ok f' => seenIn ps ys f'
    | .error e => .error e
  | [], _, _ => rfl
  | x :: xs, ys, f => by
    rw [List.cons_append, seenIn_cons, seenIn_cons]
    cases seenStep ps f x with
    | none => rfl
    | some f' => exact seenIn_app ps xs ys f'
theorem seenStep_len {ps : List Str} {f f' : List (Int × List Str)} {x : D} (h : seenStep ps f x = some f') : f'.length ≤ f.length + 1 := by
  unfold seenStep at h
  split at h
  · split at h
    · cases h
      exact put_len _ _ _
    · cases h
  · cases h
theorem seenIn_len {ps : List Str} : ∀ {xs : List D} {f f' : List (Int × List Str)}, seenIn ps xs f = .ok f' → f'.length ≤ f.length + xs.length
  | [], _, _, h => by cases h; simp
  | x :: xs, f, f', h => by
    rw [seenIn_cons] at h
    split at h
    · rename_i f2 e
      have h1 := seenStep_len e
      have h2 := seenIn_len h
      rw [List.length_cons]
      omega
    · cases h
abbrev sDic (f : List (Int × List Str)) : List (Key × D) := encA Sum.inl sL f
def ds_seen_in (K : PySem.W.Frag) : DSp := fun α Q E => ∃ (c : D) (ps : List Str) (xs : List D), α = [some (.d c), some (.d (.lst xs))] ∧ Crew ps c ∧ vld (.lst xs) = true ∧
  (∀ f, seenIn ps xs [] = .ok f → Q (.d (.dic (sDic f))) α) ∧ (∀ x, seenIn ps xs [] = .error x → E (ad K "InvalidLook") "value" x α)
theorem len_seen_in (K : PySem.W.Frag) (α : Dl) (Q : SD → Dl → Prop) (E : XQ) (h : ds_seen_in K α Q E) : α.length = 2 ∧ ∀ (i : Nat) (c : Cn), α[i]? ≠ some (some (.o c)) := by
  obtain ⟨x, c, d, rfl, _⟩ := h
  exact lenOf rfl rfl
theorem sL_getD (o : Option (List Str)) : (o.map sL).getD (.lst []) = sL (o.getD []) := by cases o <;> rfl
theorem law_seen_in (K : PySem.W.Frag) (α : Dl) (Q : SD → Dl → Prop) (E : XQ) (h : ds_seen_in K α Q E) : ws_seen_in ds_go_together (ad K "InvalidLook") ds_is_look { nx := finD α Q (.d .non), rt := finD α Q } (finE α E) (startD N_seen_in α) := by
  obtain ⟨c, ps, xs, rfl, hc, hv, hq, he⟩ := h
  obtain ⟨hl, hall⟩ := vld_lst hv
  unfold ws_seen_in ws_seen_in_t1
  walk_at "wp"
  refine for_D xs (fun pre δ => ∃ f r3 r4 r5 r6, seenIn ps pre [] = .ok f ∧ δ = [some (.d c), some (.d (.lst xs)), some (.o (.k (sDic f))), r3, r4, r5, r6]) (fun Q h => by walk_at "wp"; exact h) ⟨[], none, none, none, none, rfl, rfl⟩ ?_ ?_
  · rintro pre x post δ' ex ⟨f, r3, r4, r5, r6, hf, rfl⟩
    have hx : vld x = true := hall x (by rw [ex]; simp)
    have hfl : f.length ≤ pre.length := by have := seenIn_len hf; simpa using this
    have hpl : pre.length < 4000 := by rw [ex, List.length_append] at hl; omega
    have bad : ∀ r, seenStep ps f x = none → E (ad K "InvalidLook") "value" x r → E (ad K "InvalidLook") "value" x r := fun _ _ h => h
    have err : seenStep ps f x = none → E (ad K "InvalidLook") "value" x [some (.d c), some (.d (.lst xs))] := fun h => he x (by
      rw [ex, seenIn_app, hf]
      simp only
      rw [seenIn_cons, h])
    have ok : ∀ f', seenStep ps f x = some f' → seenIn ps (pre ++ [x]) [] = .ok f' := fun f' h => by
      rw [seenIn_app, hf]
      simp only
      rw [seenIn_cons, h]
      rfl
    unfold ws_seen_in_b1
    walk_at "wp"
    refine ⟨x, c, ps, rfl, hx, hc, ?_⟩
    walk_at "wp"
    cases el : lookOf ps x with
    | none => simpa using err (by unfold seenStep; rw [el])
    | some p =>
      obtain ⟨m, t⟩ := p
      obtain ⟨rfl, _⟩ := lookOf_inv el
      simp only [Option.isSome_some, Bool.true_eq_false, if_false]
      walk_at "wp"
      rw [sL_getD]
      refine ⟨(lookA f m).getD [], t, rfl, ?_⟩
      walk_at "wp"
      cases eg : goTog ((lookA f m).getD []) t with
      | false => simpa using err (by unfold seenStep; rw [el]; simp only [eg]; rfl)
      | true =>
        simp only [Bool.true_eq_false, if_false]
        have e2 : (if t.length > ((lookA f m).getD []).length then t.map D.str else ((lookA f m).getD []).map D.str) = (if t.length > ((lookA f m).getD []).length then t else (lookA f m).getD []).map D.str := by
          split <;> rfl
        rw [e2]
        have e3 : putG (sDic f) (Sum.inl m) (.lst ((if t.length > ((lookA f m).getD []).length then t else (lookA f m).getD []).map .str)) = sDic (putA f m (if t.length > ((lookA f m).getD []).length then t else (lookA f m).getD [])) := putG_I (f := sL) f m _
        refine ⟨by omega, putA f m (if t.length > ((lookA f m).getD []).length then t else (lookA f m).getD []), some (.d (.tup [.int m, sL t])), some (.d (.int m)), some (.d (sL t)), some (.d (sL ((lookA f m).getD []))),
          ok _ (by unfold seenStep; rw [el]; simp only [eg]; rfl), ?_⟩
        rw [e3]
  · rintro δ' ⟨f, r3, r4, r5, r6, hf, rfl⟩
    unfold ws_seen_in_t2
    walk_at "wp"
    exact hq f hf
end Sp
namespace Sp
open PySem L2 DL
local macro_rules | `(tactic| walk_at "wp") => `(tactic| simp only [wSeq, wIf, wAnd, wOr, wNot, vAnd, vOr, vNot, wB, wBin, wChain, wRet, wRetN, wNext, wNever, wIfE, eF, fO, fS, wNeg, wC, wVar, oVar, wDrop, wSet, wNil, wCons, wLst, wTup, wCall, wFn, wFnP,  wTwo, wThree, wPar, wPar3, wUn, wgN, wgTup, wgCons, wgNil, wAugI, wIsN, sIsN, nonB, wXf, wRaise, wMet, tyOk, sLen, sToInt, sList, sListD, sTuple, sAdd, sInt, sInt0, sIn, sEq, sEqD, sEqX_nil, sEqX_str, sEqX_int, sEqX_bl, sEqX_non, sEqX_sL, sEqX_iL, sEqX_sT, List.isEmpty_map, flt_all, List.isEmpty_nil, List.isEmpty_cons, sIx, sCut, wCut, wNoP, wSoP, wYes, wBreak, wCont, wApp, wPut, wFld, wMeth, wMake, wSetF, putD, nons, wIxD, wInD, wGet2, wNewD, wPutD, wEqO, wMin2, wMax2, wMaxLen, wRev, keyD,  wiSeq, wiTup, wiStr, wiRng1, wiRng2, wiEnum, outSlot,  view, SD.fz, Cn.fz, D.strip, asB, ownOf, keepKind, argsD, finD, finE, backD, startD, wipeD, unblk,  isi_list_lst, isi_list_tup, isi_list_str, isi_list_int, isi_list_bl, isi_list_non, isi_list_dic, isi_tup_lst, isi_tup_tup, isi_tup_str, isi_tup_int, isi_tup_bl, isi_tup_non, isi_tup_dic, isi_str_lst, isi_str_tup, isi_str_str, isi_str_int, isi_str_bl, isi_str_non, isi_str_dic,  isi_int_lst, isi_int_tup, isi_int_str, isi_int_int, isi_int_bl, isi_int_non, isi_int_dic, isi_bl_lst, isi_bl_tup, isi_bl_str, isi_bl_int, isi_bl_bl, isi_bl_non, isi_bl_dic,  eqOk_str, eqOk_int, eqOk_bl, eqOk_non, eqOk_sL, eqOk_iL, eqOk_nil, eqOk_nilT, deq_str, deq_int, deq_non, deq_sL, deq_iL, deq_sL_nil, deq_iL_nil, dmem_str, dmem_int, some_strs, some_ints, sIndex_str, sIndex_int, sJoin_str, sSum_int, sSorted_str, sSorted_int, keys_I, keys_S, valG_I, valG_S, putG_I, putG_S, encA_len, Option.isSome_map, PySem.sizeLine_eq,  List.getElem?_cons_succ, List.getElem?_cons_zero, List.getElem?_nil, List.set_cons_succ, List.set_cons_zero, List.length_cons, List.length_nil, List.length_map, List.length_append, List.map_cons, List.map_nil, List.cons_append, List.nil_append, List.replicate_succ, List.replicate_zero, List.getD_cons_succ, List.getD_cons_zero, List.lookup_cons, List.lookup_nil, nm_players_crew, nm_moments_crew, nm_tops_crew, nm_above_crew, nm_check_moment_crew, nm_with_look_crew, nm_all_looks_crew, nm_until_crew, nm_renamed_crew, nm_is_pair_crew, nm_rows_crew, nm_least_at_crew, nm_most_at_crew, nm_seen_crew, nm_folk_crew, nm_shown_crew, nm_notes_crew, nm_count_crew, nm_total_crew, nm_look_crew, nm_undo_crew, nm_copy_crew, nm_sight_crew, nm_players_seen, nm_moments_seen, nm_tops_seen, nm_above_seen, nm_check_moment_seen, nm_with_look_seen, nm_all_looks_seen, nm_until_seen, nm_renamed_seen, nm_is_pair_seen, nm_rows_seen, nm_least_at_seen, nm_most_at_seen, nm_crew_seen, nm_folk_seen, nm_shown_seen, nm_notes_seen, nm_count_seen, nm_total_seen, nm_look_seen, nm_undo_seen, nm_copy_seen, nm_sight_seen, nm_players_folk, nm_moments_folk, nm_tops_folk, nm_above_folk, nm_check_moment_folk, nm_with_look_folk, nm_all_looks_folk, nm_until_folk, nm_renamed_folk, nm_is_pair_folk, nm_rows_folk, nm_least_at_folk, nm_most_at_folk, nm_crew_folk, nm_seen_folk, nm_shown_folk, nm_notes_folk, nm_count_folk, nm_total_folk, nm_look_folk, nm_undo_folk, nm_copy_folk, nm_sight_folk, nm_players_shown, nm_moments_shown, nm_tops_shown, nm_above_shown, nm_check_moment_shown, nm_with_look_shown, nm_all_looks_shown, nm_until_shown, nm_renamed_shown, nm_is_pair_shown, nm_rows_shown, nm_least_at_shown, nm_most_at_shown, nm_crew_shown, nm_seen_shown, nm_folk_shown, nm_notes_shown, nm_count_shown, nm_total_shown, nm_look_shown, nm_undo_shown, nm_copy_shown, nm_sight_shown, nm_players_notes, nm_moments_notes, nm_tops_notes, nm_above_notes, nm_check_moment_notes, nm_with_look_notes, nm_all_looks_notes, nm_until_notes, nm_renamed_notes, nm_is_pair_notes, nm_rows_notes, nm_least_at_notes, nm_most_at_notes, nm_crew_notes, nm_seen_notes, nm_folk_notes, nm_shown_notes, nm_count_notes, nm_total_notes, nm_look_notes, nm_undo_notes, nm_copy_notes, nm_sight_notes,  Nat.reduceAdd, Nat.reduceSub, Nat.reduceLT, Nat.reduceLeDiff, Nat.reduceMul, Nat.reduceEqDiff, Nat.zero_add, Nat.add_zero, Nat.lt_add_left_iff_pos, Nat.le_add_left, Nat.zero_le, Nat.zero_lt_succ, Nat.succ_lt_succ_iff,  Cn.l.injEq, Cn.k.injEq, true_and, and_true, exists_eq', exists_eq_left', Option.some.injEq, Option.map_some, Option.map_none, Option.bind_some, Option.isSome_some, Option.isSome_none,  decide_eq_true_eq, Bool.false_eq_true, Bool.not_eq_true', Bool.not_true, Bool.not_false, Bool.not_not, Bool.true_xor, Bool.false_xor, decide_eq_false_iff_not, if_true, if_false, ite_true, ite_false, reduceIte, reduceCtorEq, decide_true, decide_false, decide_not, and_self, eq_self, ne_eq, not_true, not_false_eq_true, exists_const, and_imp, beq_self_eq_true])
local macro_rules | `(tactic| walk_at "wq") => `(tactic| try walk_at "wp")
local macro_rules | `(tactic| walk_at "w1") => `(tactic| simp only [wSeq_k, wIf, wAnd, wOr, wNot, vAnd, vOr, vNot, wB, wBin, wChain, wRet, wRetN, wNext, wNever, wIfE, eF, fO, fS, wNeg, wC, wVar, oVar, wDrop, wSet, wNil, wCons, wLst, wTup, wCall, wFn, wFnP,  wTwo, wThree, wPar, wPar3, wUn, wgN, wgTup, wgCons, wgNil, wAugI, wIsN, sIsN, nonB, wXf, wRaise, wMet, tyOk, sLen, sToInt, sList, sListD, sTuple, sAdd, sInt, sInt0, sIn, sEq, sEqD, sEqX_nil, sEqX_str, sEqX_int, sEqX_bl, sEqX_non, sEqX_sL, sEqX_iL, sEqX_sT, List.isEmpty_map, flt_all, List.isEmpty_nil, List.isEmpty_cons, sIx, sCut, wCut, wNoP, wSoP, wYes, wBreak, wCont, wApp, wPut, wFld, wMeth, wMake, wSetF, putD, nons, wIxD, wInD, wGet2, wNewD, wPutD, wEqO, wMin2, wMax2, wMaxLen, wRev, keyD,  wiSeq, wiTup, wiStr, wiRng1, wiRng2, wiEnum, outSlot,  view, SD.fz, Cn.fz, D.strip, asB, ownOf, keepKind, argsD, finD, finE, backD, startD, wipeD, unblk,  isi_list_lst, isi_list_tup, isi_list_str, isi_list_int, isi_list_bl, isi_list_non, isi_list_dic, isi_tup_lst, isi_tup_tup, isi_tup_str, isi_tup_int, isi_tup_bl, isi_tup_non, isi_tup_dic, isi_str_lst, isi_str_tup, isi_str_str, isi_str_int, isi_str_bl, isi_str_non, isi_str_dic,  isi_int_lst, isi_int_tup, isi_int_str, isi_int_int, isi_int_bl, isi_int_non, isi_int_dic, isi_bl_lst, isi_bl_tup, isi_bl_str, isi_bl_int, isi_bl_bl, isi_bl_non, isi_bl_dic,  eqOk_str, eqOk_int, eqOk_bl, eqOk_non, eqOk_sL, eqOk_iL, eqOk_nil, eqOk_nilT, deq_str, deq_int, deq_non, deq_sL, deq_iL, deq_sL_nil, deq_iL_nil, dmem_str, dmem_int, some_strs, some_ints, sIndex_str, sIndex_int, sJoin_str, sSum_int, sSorted_str, sSorted_int, keys_I, keys_S, valG_I, valG_S, putG_I, putG_S, encA_len, Option.isSome_map, PySem.sizeLine_eq,  List.getElem?_cons_succ, List.getElem?_cons_zero, List.getElem?_nil, List.set_cons_succ, List.set_cons_zero, List.length_cons, List.length_nil, List.length_map, List.length_append, List.map_cons, List.map_nil, List.cons_append, List.nil_append, List.replicate_succ, List.replicate_zero, List.getD_cons_succ, List.getD_cons_zero, List.lookup_cons, List.lookup_nil, nm_players_crew, nm_moments_crew, nm_tops_crew, nm_above_crew, nm_check_moment_crew, nm_with_look_crew, nm_all_looks_crew, nm_until_crew, nm_renamed_crew, nm_is_pair_crew, nm_rows_crew, nm_least_at_crew, nm_most_at_crew, nm_seen_crew, nm_folk_crew, nm_shown_crew, nm_notes_crew, nm_count_crew, nm_total_crew, nm_look_crew, nm_undo_crew, nm_copy_crew, nm_sight_crew, nm_players_seen, nm_moments_seen, nm_tops_seen, nm_above_seen, nm_check_moment_seen, nm_with_look_seen, nm_all_looks_seen, nm_until_seen, nm_renamed_seen, nm_is_pair_seen, nm_rows_seen, nm_least_at_seen, nm_most_at_seen, nm_crew_seen, nm_folk_seen, nm_shown_seen, nm_notes_seen, nm_count_seen, nm_total_seen, nm_look_seen, nm_undo_seen, nm_copy_seen, nm_sight_seen, nm_players_folk, nm_moments_folk, nm_tops_folk, nm_above_folk, nm_check_moment_folk, nm_with_look_folk, nm_all_looks_folk, nm_until_folk, nm_renamed_folk, nm_is_pair_folk, nm_rows_folk, nm_least_at_folk, nm_most_at_folk, nm_crew_folk, nm_seen_folk, nm_shown_folk, nm_notes_folk, nm_count_folk, nm_total_folk, nm_look_folk, nm_undo_folk, nm_copy_folk, nm_sight_folk, nm_players_shown, nm_moments_shown, nm_tops_shown, nm_above_shown, nm_check_moment_shown, nm_with_look_shown, nm_all_looks_shown, nm_until_shown, nm_renamed_shown, nm_is_pair_shown, nm_rows_shown, nm_least_at_shown, nm_most_at_shown, nm_crew_shown, nm_seen_shown, nm_folk_shown, nm_notes_shown, nm_count_shown, nm_total_shown, nm_look_shown, nm_undo_shown, nm_copy_shown, nm_sight_shown, nm_players_notes, nm_moments_notes, nm_tops_notes, nm_above_notes, nm_check_moment_notes, nm_with_look_notes, nm_all_looks_notes, nm_until_notes, nm_renamed_notes, nm_is_pair_notes, nm_rows_notes, nm_least_at_notes, nm_most_at_notes, nm_crew_notes, nm_seen_notes, nm_folk_notes, nm_shown_notes, nm_count_notes, nm_total_notes, nm_look_notes, nm_undo_notes, nm_copy_notes, nm_sight_notes,  Nat.reduceAdd, Nat.reduceSub, Nat.reduceLT, Nat.reduceLeDiff, Nat.reduceMul, Nat.reduceEqDiff, Nat.zero_add, Nat.add_zero, Nat.lt_add_left_iff_pos, Nat.le_add_left, Nat.zero_le, Nat.zero_lt_succ, Nat.succ_lt_succ_iff,  Cn.l.injEq, Cn.k.injEq, true_and, and_true, exists_eq', exists_eq_left', Option.some.injEq, Option.map_some, Option.map_none, Option.bind_some, Option.isSome_some, Option.isSome_none,  decide_eq_true_eq, Bool.false_eq_true, Bool.not_eq_true', Bool.not_true, Bool.not_false, Bool.not_not, Bool.true_xor, Bool.false_xor, decide_eq_false_iff_not, if_true, if_false, ite_true, ite_false, reduceIte, reduceCtorEq, decide_true, decide_false, decide_not, and_self, eq_self, ne_eq, not_true, not_false_eq_true, exists_const, and_imp, beq_self_eq_true])
local macro_rules | `(tactic| walk_at "ws") => `(tactic| repeat (first | refine kont_intro ?_ | walk_at "w1"))
structure Sg where
  crew : List Str
  seen : List (Int × List Str)
abbrev Sg.fs (s : Sg) : List (Str × D) := [("crew", .tup (s.crew.map .str)), ("seen", .dic (encA Sum.inl sL s.seen))]
abbrev Sg.d (K : PySem.W.Frag) (s : Sg) : D := .obj (ad K "Sight") s.fs
structure Sg.Ok (s : Sg) : Prop where
  nb : ∀ x ∈ s.crew, nameB x = true
  nd : s.crew.Nodup
  ne : s.crew ≠ []
  few : s.crew.length < 4000
  fewS : s.seen.length < 4000
  keys : (s.seen.map (·.1)).Nodup
  tops : ∀ p ∈ s.seen, p.2.Nodup ∧ ∀ x ∈ p.2, x ∈ s.crew
def ds_Sight_init (K : PySem.W.Frag) : DSp := fun α Q E => ∃ x l : D, α = [some (.p (.ob (ad K "Sight") [])), some (.d x), some (.d l)] ∧ vld x = true ∧ vld l = true ∧
  (arePlayers x = false → ∀ β, E (ad K "InvalidList") "value" x β) ∧
  (∀ ps, arePlayers x = true → x = sL ps → match l with
    | .non => Q (.d .non) [some (.p (.ob (ad K "Sight") (Sg.fs ⟨ps, []⟩))), some (.d x), some (.d l)]
    | .lst xs => match seenIn ps xs [] with
      | .ok f => Q (.d .non) [some (.p (.ob (ad K "Sight") (Sg.fs ⟨ps, f⟩))), some (.d x), some (.d l)]
      | .error y => ∀ β, E (ad K "InvalidLook") "value" y β
    | l => ∀ β, E (ad K "InvalidList") "value" l β)
theorem len_Sight_init (K : PySem.W.Frag) (α : Dl) (Q : SD → Dl → Prop) (E : XQ) (h : ds_Sight_init K α Q E) : α.length = 3 ∧ ∀ (i : Nat) (c : Cn), α[i]? ≠ some (some (.o c)) := by
  obtain ⟨x, l, rfl, _⟩ := h
  exact lenOf rfl rfl
theorem law_Sight_init (K : PySem.W.Frag) (α : Dl) (Q : SD → Dl → Prop) (E : XQ) (h : ds_Sight_init K α Q E) :
    ws_Sight_init ds_are_players (ad K "InvalidList") (ad K "Sight") (ds_seen_in K) { nx := finD α Q (.d .non), rt := finD α Q } (finE α E) (startD N_Sight_init α) := by
  obtain ⟨x, l, rfl, hx, hl, bad, good⟩ := h
  unfold ws_Sight_init
  walk_at "wq"
  refine ⟨x, rfl, hx, ?_⟩
  walk_at "wq"
  cases e : arePlayers x with
  | false => simpa using bad e _
  | true =>
    obtain ⟨ps, rfl, hn, nd, ne⟩ := arePlayers_inv e
    have g := good ps e rfl
    clear good bad
    simp only [Bool.true_eq_false, if_false]
    unfold ws_Sight_init_t1
    cases l with
    | non =>
      unfold ws_Sight_init_t2 ws_Sight_init_t3 ws_Sight_init_t4
      walk_at "wq"
      refine ⟨_, ps, [], rfl, .inl rfl, rfl, fun f hf => ?_, fun y hy => by cases hy⟩
      cases hf
      walk_at "wq"
      exact g
    | lst xs =>
      unfold ws_Sight_init_t2 ws_Sight_init_t3 ws_Sight_init_t4
      walk_at "wq"
      refine ⟨_, ps, xs, rfl, .inl rfl, hl, fun f hf => ?_, fun y hy => ?_⟩
      · simp only [hf] at g
        walk_at "wq"
        exact g
      · simp only [hy] at g
        walk_at "wq"
        exact g _
    | _ => first | (cases hl; done) | (unfold ws_Sight_init_t2; walk_at "wq"; exact g _)
def Sg.moments (s : Sg) : List Int := isort (s.seen.map (·.1))
def ds_Sight_players (K : PySem.W.Frag) : DSp := fun α Q _ => ∃ s : Sg, α = [some (.d (s.d K))] ∧ Q (.o (.l (s.crew.map .str))) α
theorem len_Sight_players (K : PySem.W.Frag) (α : Dl) (Q : SD → Dl → Prop) (E : XQ) (h : ds_Sight_players K α Q E) : α.length = 1 ∧ ∀ (i : Nat) (c : Cn), α[i]? ≠ some (some (.o c)) := by
  obtain ⟨s, rfl, _⟩ := h
  exact lenOf rfl rfl
theorem law_Sight_players (K : PySem.W.Frag) (α : Dl) (Q : SD → Dl → Prop) (E : XQ) (h : ds_Sight_players K α Q E) : ws_Sight_players (ad K "Sight") { nx := finD α Q (.d .non), rt := finD α Q } (finE α E) (startD N_Sight_players α) := by
  obtain ⟨s, rfl, hq⟩ := h
  unfold ws_Sight_players
  walk_at "wq"
  exact hq
def ds_Sight_moments (K : PySem.W.Frag) : DSp := fun α Q _ => ∃ s : Sg, α = [some (.d (s.d K))] ∧ Q (.o (.l (s.moments.map .int))) α
theorem len_Sight_moments (K : PySem.W.Frag) (α : Dl) (Q : SD → Dl → Prop) (E : XQ) (h : ds_Sight_moments K α Q E) : α.length = 1 ∧ ∀ (i : Nat) (c : Cn), α[i]? ≠ some (some (.o c)) := by
  obtain ⟨s, rfl, _⟩ := h
  exact lenOf rfl rfl
theorem law_Sight_moments (K : PySem.W.Frag) (α : Dl) (Q : SD → Dl → Prop) (E : XQ) (h : ds_Sight_moments K α Q E) : ws_Sight_moments (ad K "Sight") { nx := finD α Q (.d .non), rt := finD α Q } (finE α E) (startD N_Sight_moments α) := by
  obtain ⟨s, rfl, hq⟩ := h
  unfold ws_Sight_moments
  walk_at "wq"
  exact hq
def Sg.has (s : Sg) (m : Int) : Bool := decide (m ∈ s.seen.map (·.1))
def ds_Sight_check_moment (K : PySem.W.Frag) : DSp := fun α Q E => ∃ (s : Sg) (x : D), α = [some (.d (s.d K)), some (.d x)] ∧ vld x = true ∧ (isWhole x = false → E (ad K "InvalidNumber") "value" x α) ∧
  (∀ m, x = .int m → if s.has m = true then Q (.d .non) α else E (ad K "Unknown") "which" x α)
theorem len_Sight_check_moment (K : PySem.W.Frag) (α : Dl) (Q : SD → Dl → Prop) (E : XQ) (h : ds_Sight_check_moment K α Q E) : α.length = 2 ∧ ∀ (i : Nat) (c : Cn), α[i]? ≠ some (some (.o c)) := by
  obtain ⟨s, x, rfl, _⟩ := h
  exact lenOf rfl rfl
theorem law_Sight_check_moment (K : PySem.W.Frag) (α : Dl) (Q : SD → Dl → Prop) (E : XQ) (h : ds_Sight_check_moment K α Q E) :
    ws_Sight_check_moment (ds_check_whole K) (ad K "Sight") (ad K "Unknown") { nx := finD α Q (.d .non), rt := finD α Q } (finE α E) (startD N_Sight_check_moment α) := by
  obtain ⟨s, x, rfl, hv, h1, h2⟩ := h
  unfold ws_Sight_check_moment
  walk_at "wq"
  refine ⟨x, rfl, hv, fun hw => ?_, fun hw => ?_⟩
  · cases x with
    | int m =>
      have g := h2 m rfl
      unfold ws_Sight_check_moment_t1
      walk_at "wq"
      unfold Sg.has at g
      rw [lookA_isSome]
      cases e : decide (m ∈ s.seen.map (·.1)) with
      | true => rw [e] at g; simpa using g
      | false => rw [e] at g; simpa using g
    | _ => cases hw
  · walk_at "wq"
    exact h1 hw
def Sg.tops (s : Sg) (m : Int) : List Str := (lookA s.seen m).getD []
theorem Sg.look {s : Sg} {m : Int} (h : s.has m = true) : lookA s.seen m = some (s.tops m) := by
  unfold Sg.has at h
  rw [← lookA_isSome] at h
  unfold Sg.tops
  cases e : lookA s.seen m with
  | none => rw [e] at h; cases h
  | some t => rfl
def ds_Sight_tops (K : PySem.W.Frag) : DSp := fun α Q E => ∃ (s : Sg) (x : D), α = [some (.d (s.d K)), some (.d x)] ∧ vld x = true ∧ (isWhole x = false → E (ad K "InvalidNumber") "value" x α) ∧
  (∀ m, x = .int m → if s.has m = true then Q (.o (.l ((s.tops m).map .str))) α else E (ad K "Unknown") "which" x α)
theorem len_Sight_tops (K : PySem.W.Frag) (α : Dl) (Q : SD → Dl → Prop) (E : XQ) (h : ds_Sight_tops K α Q E) : α.length = 2 ∧ ∀ (i : Nat) (c : Cn), α[i]? ≠ some (some (.o c)) := by
  obtain ⟨s, x, rfl, _⟩ := h
  exact lenOf rfl rfl
theorem law_Sight_tops (K : PySem.W.Frag) (α : Dl) (Q : SD → Dl → Prop) (E : XQ) (h : ds_Sight_tops K α Q E) :
    ws_Sight_tops (ds_Sight_check_moment K) (ad K "Sight") { nx := finD α Q (.d .non), rt := finD α Q } (finE α E) (startD N_Sight_tops α) := by
  obtain ⟨s, x, rfl, hv, h1, h2⟩ := h
  unfold ws_Sight_tops ws_Sight_tops_t1
  walk_at "wq"
  refine ⟨s, x, rfl, hv, fun hw => ?_, fun m hm => ?_⟩
  · walk_at "wq"
    exact h1 hw
  · subst hm
    have g := h2 m rfl
    cases e : s.has m with
    | false => rw [e] at g; simpa using g
    | true =>
      rw [e] at g
      walk_at "wq"
      refine ⟨sL (s.tops m), by rw [Sg.look e]; rfl, ?_⟩
      walk_at "wq"
      simpa using g
def ds_check_player (K : PySem.W.Frag) : DSp := fun α Q E => ∃ (s : Sg) (x : D), α = [some (.d (s.d K)), some (.d x)] ∧ vld x = true ∧ (isName x = false → E (ad K "InvalidName") "value" x α) ∧
  (∀ z, x = .str z → nameB z = true → if z ∈ s.crew then Q (.d .non) α else E (ad K "Unknown") "which" x α)
theorem len_check_player (K : PySem.W.Frag) (α : Dl) (Q : SD → Dl → Prop) (E : XQ) (h : ds_check_player K α Q E) : α.length = 2 ∧ ∀ (i : Nat) (c : Cn), α[i]? ≠ some (some (.o c)) := by
  obtain ⟨s, x, rfl, _⟩ := h
  exact lenOf rfl rfl
theorem law_check_player (K : PySem.W.Frag) (α : Dl) (Q : SD → Dl → Prop) (E : XQ) (h : ds_check_player K α Q E) :
    ws_check_player (ds_check_name K) (ad K "Sight") (ad K "Unknown") { nx := finD α Q (.d .non), rt := finD α Q } (finE α E) (startD N_check_player α) := by
  obtain ⟨s, x, rfl, hv, h1, h2⟩ := h
  unfold ws_check_player
  walk_at "wq"
  refine ⟨x, rfl, hv, fun hw => ?_, fun hw => ?_⟩
  · cases x with
    | str z =>
      have g := h2 z rfl hw
      unfold ws_check_player_t1
      walk_at "wq"
      by_cases c : z ∈ s.crew <;> simp only [c, if_true, if_false] at g ⊢ <;> simpa using g
    | _ => cases hw
  · walk_at "wq"
    exact h1 hw
inductive AR where
  | ok (o : Option Bool) | number (x : D) | name (x : D) | unknown (x : D)
def AR.wp (K : PySem.W.Frag) (Q : SD → Dl → Prop) (E : XQ) (α : Dl) : AR → Prop
  | .ok o => Q (.d (optB o)) α
  | .number v => E (ad K "InvalidNumber") "value" v α
  | .name v => E (ad K "InvalidName") "value" v α
  | .unknown v => E (ad K "Unknown") "which" v α
end Sp
namespace Sp
open PySem L2 DL
local macro_rules | `(tactic| walk_at "wp") => `(tactic| simp only [wSeq, wIf, wAnd, wOr, wNot, vAnd, vOr, vNot, wB, wBin, wChain, wRet, wRetN, wNext, wNever, wIfE, eF, fO, fS, wNeg, wC, wVar, oVar, wDrop, wSet, wNil, wCons, wLst, wTup, wCall, wFn, wFnP,  wTwo, wThree, wPar, wPar3, wUn, wgN, wgTup, wgCons, wgNil, wAugI, wIsN, sIsN, nonB, wXf, wRaise, wMet, tyOk, sLen, sToInt, sList, sListD, sTuple, sAdd, sInt, sInt0, sIn, sEq, sEqD, sEqX_nil, sEqX_str, sEqX_int, sEqX_bl, sEqX_non, sEqX_sL, sEqX_iL, sEqX_sT, List.isEmpty_map, flt_all, List.isEmpty_nil, List.isEmpty_cons, sIx, sCut, wCut, wNoP, wSoP, wYes, wBreak, wCont, wApp, wPut, wFld, wMeth, wMake, wSetF, putD, nons, wIxD, wInD, wGet2, wNewD, wPutD, wEqO, wMin2, wMax2, wMaxLen, wRev, keyD,  wiSeq, wiTup, wiStr, wiRng1, wiRng2, wiEnum, outSlot,  view, SD.fz, Cn.fz, D.strip, asB, ownOf, keepKind, argsD, finD, finE, backD, startD, wipeD, unblk,  isi_list_lst, isi_list_tup, isi_list_str, isi_list_int, isi_list_bl, isi_list_non, isi_list_dic, isi_tup_lst, isi_tup_tup, isi_tup_str, isi_tup_int, isi_tup_bl, isi_tup_non, isi_tup_dic, isi_str_lst, isi_str_tup, isi_str_str, isi_str_int, isi_str_bl, isi_str_non, isi_str_dic,  isi_int_lst, isi_int_tup, isi_int_str, isi_int_int, isi_int_bl, isi_int_non, isi_int_dic, isi_bl_lst, isi_bl_tup, isi_bl_str, isi_bl_int, isi_bl_bl, isi_bl_non, isi_bl_dic,  eqOk_str, eqOk_int, eqOk_bl, eqOk_non, eqOk_sL, eqOk_iL, eqOk_nil, eqOk_nilT, deq_str, deq_int, deq_non, deq_sL, deq_iL, deq_sL_nil, deq_iL_nil, dmem_str, dmem_int, some_strs, some_ints, sIndex_str, sIndex_int, sJoin_str, sSum_int, sSorted_str, sSorted_int, keys_I, keys_S, valG_I, valG_S, putG_I, putG_S, encA_len, Option.isSome_map, PySem.sizeLine_eq,  List.getElem?_cons_succ, List.getElem?_cons_zero, List.getElem?_nil, List.set_cons_succ, List.set_cons_zero, List.length_cons, List.length_nil, List.length_map, List.length_append, List.map_cons, List.map_nil, List.cons_append, List.nil_append, List.replicate_succ, List.replicate_zero, List.getD_cons_succ, List.getD_cons_zero, List.lookup_cons, List.lookup_nil, nm_players_crew, nm_moments_crew, nm_tops_crew, nm_above_crew, nm_check_moment_crew, nm_with_look_crew, nm_all_looks_crew, nm_until_crew, nm_renamed_crew, nm_is_pair_crew, nm_rows_crew, nm_least_at_crew, nm_most_at_crew, nm_seen_crew, nm_folk_crew, nm_shown_crew, nm_notes_crew, nm_count_crew, nm_total_crew, nm_look_crew, nm_undo_crew, nm_copy_crew, nm_sight_crew, nm_players_seen, nm_moments_seen, nm_tops_seen, nm_above_seen, nm_check_moment_seen, nm_with_look_seen, nm_all_looks_seen, nm_until_seen, nm_renamed_seen, nm_is_pair_seen, nm_rows_seen, nm_least_at_seen, nm_most_at_seen, nm_crew_seen, nm_folk_seen, nm_shown_seen, nm_notes_seen, nm_count_seen, nm_total_seen, nm_look_seen, nm_undo_seen, nm_copy_seen, nm_sight_seen, nm_players_folk, nm_moments_folk, nm_tops_folk, nm_above_folk, nm_check_moment_folk, nm_with_look_folk, nm_all_looks_folk, nm_until_folk, nm_renamed_folk, nm_is_pair_folk, nm_rows_folk, nm_least_at_folk, nm_most_at_folk, nm_crew_folk, nm_seen_folk, nm_shown_folk, nm_notes_folk, nm_count_folk, nm_total_folk, nm_look_folk, nm_undo_folk, nm_copy_folk, nm_sight_folk, nm_players_shown, nm_moments_shown, nm_tops_shown, nm_above_shown, nm_check_moment_shown, nm_with_look_shown, nm_all_looks_shown, nm_until_shown, nm_renamed_shown, nm_is_pair_shown, nm_rows_shown, nm_least_at_shown, nm_most_at_shown, nm_crew_shown, nm_seen_shown, nm_folk_shown, nm_notes_shown, nm_count_shown, nm_total_shown, nm_look_shown, nm_undo_shown, nm_copy_shown, nm_sight_shown, nm_players_notes, nm_moments_notes, nm_tops_notes, nm_above_notes, nm_check_moment_notes, nm_with_look_notes, nm_all_looks_notes, nm_until_notes, nm_renamed_notes, nm_is_pair_notes, nm_rows_notes, nm_least_at_notes, nm_most_at_notes, nm_crew_notes, nm_seen_notes, nm_folk_notes, nm_shown_notes, nm_count_notes, nm_total_notes, nm_look_notes, nm_undo_notes, nm_copy_notes, nm_sight_notes,  Nat.reduceAdd, Nat.reduceSub, Nat.reduceLT, Nat.reduceLeDiff, Nat.reduceMul, Nat.reduceEqDiff, Nat.zero_add, Nat.add_zero, Nat.lt_add_left_iff_pos, Nat.le_add_left, Nat.zero_le, Nat.zero_lt_succ, Nat.succ_lt_succ_iff,  Cn.l.injEq, Cn.k.injEq, true_and, and_true, exists_eq', exists_eq_left', Option.some.injEq, Option.map_some, Option.map_none, Option.bind_some, Option.isSome_some, Option.isSome_none,  decide_eq_true_eq, Bool.false_eq_true, Bool.not_eq_true', Bool.not_true, Bool.not_false, Bool.not_not, Bool.true_xor, Bool.false_xor, decide_eq_false_iff_not, if_true, if_false, ite_true, ite_false, reduceIte, reduceCtorEq, decide_true, decide_false, decide_not, and_self, eq_self, ne_eq, not_true, not_false_eq_true, exists_const, and_imp, beq_self_eq_true])
local macro_rules | `(tactic| walk_at "wq") => `(tactic| try walk_at "wp")
local macro_rules | `(tactic| walk_at "w1") => `(tactic| simp only [wSeq_k, wIf, wAnd, wOr, wNot, vAnd, vOr, vNot, wB, wBin, wChain, wRet, wRetN, wNext, wNever, wIfE, eF, fO, fS, wNeg, wC, wVar, oVar, wDrop, wSet, wNil, wCons, wLst, wTup, wCall, wFn, wFnP,  wTwo, wThree, wPar, wPar3, wUn, wgN, wgTup, wgCons, wgNil, wAugI, wIsN, sIsN, nonB, wXf, wRaise, wMet, tyOk, sLen, sToInt, sList, sListD, sTuple, sAdd, sInt, sInt0, sIn, sEq, sEqD, sEqX_nil, sEqX_str, sEqX_int, sEqX_bl, sEqX_non, sEqX_sL, sEqX_iL, sEqX_sT, List.isEmpty_map, flt_all, List.isEmpty_nil, List.isEmpty_cons, sIx, sCut, wCut, wNoP, wSoP, wYes, wBreak, wCont, wApp, wPut, wFld, wMeth, wMake, wSetF, putD, nons, wIxD, wInD, wGet2, wNewD, wPutD, wEqO, wMin2, wMax2, wMaxLen, wRev, keyD,  wiSeq, wiTup, wiStr, wiRng1, wiRng2, wiEnum, outSlot,  view, SD.fz, Cn.fz, D.strip, asB, ownOf, keepKind, argsD, finD, finE, backD, startD, wipeD, unblk,  isi_list_lst, isi_list_tup, isi_list_str, isi_list_int, isi_list_bl, isi_list_non, isi_list_dic, isi_tup_lst, isi_tup_tup, isi_tup_str, isi_tup_int, isi_tup_bl, isi_tup_non, isi_tup_dic, isi_str_lst, isi_str_tup, isi_str_str, isi_str_int, isi_str_bl, isi_str_non, isi_str_dic,  isi_int_lst, isi_int_tup, isi_int_str, isi_int_int, isi_int_bl, isi_int_non, isi_int_dic, isi_bl_lst, isi_bl_tup, isi_bl_str, isi_bl_int, isi_bl_bl, isi_bl_non, isi_bl_dic,  eqOk_str, eqOk_int, eqOk_bl, eqOk_non, eqOk_sL, eqOk_iL, eqOk_nil, eqOk_nilT, deq_str, deq_int, deq_non, deq_sL, deq_iL, deq_sL_nil, deq_iL_nil, dmem_str, dmem_int, some_strs, some_ints, sIndex_str, sIndex_int, sJoin_str, sSum_int, sSorted_str, sSorted_int, keys_I, keys_S, valG_I, valG_S, putG_I, putG_S, encA_len, Option.isSome_map, PySem.sizeLine_eq,  List.getElem?_cons_succ, List.getElem?_cons_zero, List.getElem?_nil, List.set_cons_succ, List.set_cons_zero, List.length_cons, List.length_nil, List.length_map, List.length_append, List.map_cons, List.map_nil, List.cons_append, List.nil_append, List.replicate_succ, List.replicate_zero, List.getD_cons_succ, List.getD_cons_zero, List.lookup_cons, List.lookup_nil, nm_players_crew, nm_moments_crew, nm_tops_crew, nm_above_crew, nm_check_moment_crew, nm_with_look_crew, nm_all_looks_crew, nm_until_crew, nm_renamed_crew, nm_is_pair_crew, nm_rows_crew, nm_least_at_crew, nm_most_at_crew, nm_seen_crew, nm_folk_crew, nm_shown_crew, nm_notes_crew, nm_count_crew, nm_total_crew, nm_look_crew, nm_undo_crew, nm_copy_crew, nm_sight_crew, nm_players_seen, nm_moments_seen, nm_tops_seen, nm_above_seen, nm_check_moment_seen, nm_with_look_seen, nm_all_looks_seen, nm_until_seen, nm_renamed_seen, nm_is_pair_seen, nm_rows_seen, nm_least_at_seen, nm_most_at_seen, nm_crew_seen, nm_folk_seen, nm_shown_seen, nm_notes_seen, nm_count_seen, nm_total_seen, nm_look_seen, nm_undo_seen, nm_copy_seen, nm_sight_seen, nm_players_folk, nm_moments_folk, nm_tops_folk, nm_above_folk, nm_check_moment_folk, nm_with_look_folk, nm_all_looks_folk, nm_until_folk, nm_renamed_folk, nm_is_pair_folk, nm_rows_folk, nm_least_at_folk, nm_most_at_folk, nm_crew_folk, nm_seen_folk, nm_shown_folk, nm_notes_folk, nm_count_folk, nm_total_folk, nm_look_folk, nm_undo_folk, nm_copy_folk, nm_sight_folk, nm_players_shown, nm_moments_shown, nm_tops_shown, nm_above_shown, nm_check_moment_shown, nm_with_look_shown, nm_all_looks_shown, nm_until_shown, nm_renamed_shown, nm_is_pair_shown, nm_rows_shown, nm_least_at_shown, nm_most_at_shown, nm_crew_shown, nm_seen_shown, nm_folk_shown, nm_notes_shown, nm_count_shown, nm_total_shown, nm_look_shown, nm_undo_shown, nm_copy_shown, nm_sight_shown, nm_players_notes, nm_moments_notes, nm_tops_notes, nm_above_notes, nm_check_moment_notes, nm_with_look_notes, nm_all_looks_notes, nm_until_notes, nm_renamed_notes, nm_is_pair_notes, nm_rows_notes, nm_least_at_notes, nm_most_at_notes, nm_crew_notes, nm_seen_notes, nm_folk_notes, nm_shown_notes, nm_count_notes, nm_total_notes, nm_look_notes, nm_undo_notes, nm_copy_notes, nm_sight_notes,  Nat.reduceAdd, Nat.reduceSub, Nat.reduceLT, Nat.reduceLeDiff, Nat.reduceMul, Nat.reduceEqDiff, Nat.zero_add, Nat.add_zero, Nat.lt_add_left_iff_pos, Nat.le_add_left, Nat.zero_le, Nat.zero_lt_succ, Nat.succ_lt_succ_iff,  Cn.l.injEq, Cn.k.injEq, true_and, and_true, exists_eq', exists_eq_left', Option.some.injEq, Option.map_some, Option.map_none, Option.bind_some, Option.isSome_some, Option.isSome_none,  decide_eq_true_eq, Bool.false_eq_true, Bool.not_eq_true', Bool.not_true, Bool.not_false, Bool.not_not, Bool.true_xor, Bool.false_xor, decide_eq_false_iff_not, if_true, if_false, ite_true, ite_false, reduceIte, reduceCtorEq, decide_true, decide_false, decide_not, and_self, eq_self, ne_eq, not_true, not_false_eq_true, exists_const, and_imp, beq_self_eq_true])
local macro_rules | `(tactic| walk_at "ws") => `(tactic| repeat (first | refine kont_intro ?_ | walk_at "w1"))
theorem atI_any {α : Type} {xs : List α} {i : Int} (h0 : 0 ≤ i) (h1 : i < xs.length) : ∃ d, L2.atI xs i = some d ∧ d ∈ xs := by
  rw [atI_some h0 h1]
  exact ⟨_, rfl, List.getElem_mem _⟩
theorem perm_map_inv {α β : Type} {f : α → β} : ∀ {xs ys : List β}, xs.Perm ys → ∀ zs : List α, ys = zs.map f → ∃ us : List α, xs = us.map f ∧ us.Perm zs := by
  intro xs ys h
  induction h with
  | nil => intro zs e; exact ⟨[], rfl, by cases zs with | nil => exact .nil | cons => cases e⟩
  | cons a p ih =>
    intro zs e
    cases zs with
    | nil => cases e
    | cons z zs =>
      simp only [List.map_cons, List.cons.injEq] at e
      obtain ⟨us, e1, e2⟩ := ih zs e.2
      exact ⟨z :: us, by rw [e1, List.map_cons, e.1], .cons z e2⟩
  | swap a b l =>
    intro zs e
    cases zs with
    | nil => cases e
    | cons z zs =>
      cases zs with
      | nil => simp at e
      | cons y zs =>
        simp only [List.map_cons, List.cons.injEq] at e
        exact ⟨y :: z :: zs, by rw [List.map_cons, List.map_cons, ← e.1, ← e.2.1, ← e.2.2], .swap _ _ _⟩
  | trans _ _ ih1 ih2 =>
    intro zs e
    obtain ⟨us, e1, e2⟩ := ih2 zs e
    obtain ⟨ws, e3, e4⟩ := ih1 us e1
    exact ⟨ws, e3, e4.trans e2⟩
theorem nodup_sub_len {α : Type} [DecidableEq α] : ∀ {xs ys : List α}, xs.Nodup → (∀ x ∈ xs, x ∈ ys) → xs.length ≤ ys.length
  | [], _, _, _ => Nat.zero_le _
  | x :: xs, ys, nd, h => by
    have nd' := List.nodup_cons.mp nd
    have h1 := nodup_sub_len (xs := xs) (ys := ys.erase x) nd'.2 fun y hy => by
      have ne : y ≠ x := fun e => nd'.1 (e ▸ hy)
      exact (List.mem_erase_of_ne ne).mpr (h y (List.mem_cons_of_mem _ hy))
    have h2 := List.length_erase_of_mem (h x List.mem_cons_self)
    have h3 : 0 < ys.length := List.length_pos_of_mem (h x List.mem_cons_self)
    rw [List.length_cons]
    omega
theorem cm {i j : Int} (hi : i.natAbs < 18446744073709551616) (hj : j.natAbs < 18446744073709551616) : CMulW i j := wide_mul (a := 64) (b := 64) (Nat.lt_of_lt_of_le hi (by decide)) (Nat.lt_of_lt_of_le hj (by decide)) (by decide) (by decide) (by decide)
def ds_l_pump : DSp := fun α Q _ => ∃ (ns : List Int) (at_ : Int), α = [some (.d (.scr ns)), some (.d (.int at_))] ∧ 0 ≤ at_ ∧ at_ < 1000 ∧ ∀ n : Int, Q (.o (.l [.int n])) [some (.d (.scr ns)), some (.d (.int at_))]
theorem len_l_pump (α : Dl) (Q : SD → Dl → Prop) (E : XQ) (h : ds_l_pump α Q E) : α.length = 2 ∧ ∀ (i : Nat) (c : Cn), α[i]? ≠ some (some (.o c)) := by
  obtain ⟨n, m, rfl, _⟩ := h
  exact lenOf rfl rfl
theorem full_step {full x : Int} {i : Nat} (h : full.natAbs ≤ 2 ^ (32 * i)) (x0 : 0 ≤ x) (x1 : x < 2147483122) : (full * 2147483122 + x).natAbs ≤ 2 ^ (32 * (i + 1)) := by
  have e : 2 ^ (32 * (i + 1)) = 2 ^ (32 * i) * 4294967296 := by rw [Nat.mul_add, Nat.pow_add]
  have p : 1 ≤ 2 ^ (32 * i) := Nat.one_le_two_pow
  rw [e]
  generalize 2 ^ (32 * i) = P at h p ⊢
  omega
theorem pump_t5 {ns : List Int} {at_ cell near far : Int} {dp : Option SD} {M : WEnds} {E : XQ} (a0 : 0 ≤ at_) (a1 : at_ < 1000) (n0 : 0 ≤ near) (n1 : near < 2147483137) (f0 : 0 ≤ far) (f1 : far < 2147483123)
    (hq : ∀ n : Int, ∀ r : List (Option SD), M.rt (.o (.l [.int n])) (some (.d (.scr ns)) :: some (.d (.int at_)) :: r)) :
    ws_l_pump_t5 M E [some (.d (.scr ns)), some (.d (.int at_)), some (.d (.int cell)), dp, some (.d (.int near)), some (.d (.int far)), some (.d (.int 0)), none] := by
  refine ⟨⟨by decide, by decide⟩, fun i δ => ∃ (near far full : Int) (r : Option SD), 0 ≤ near ∧ near < 2147483137 ∧ 0 ≤ far ∧ far < 2147483123 ∧ full.natAbs ≤ 2 ^ (32 * i) ∧
    δ = [some (.d (.scr ns)), some (.d (.int at_)), some (.d (.int cell)), dp, some (.d (.int near)), some (.d (.int far)), some (.d (.int full)), r], ⟨near, far, 0, none, n0, n1, f0, f1, by decide, rfl⟩, ?_, ?_⟩
  · rintro i d δ hd ⟨near, far, full, r, n0, n1, f0, f1, hf, rfl⟩
    obtain ⟨hi, rfl⟩ := rangeD_get hd
    have hi' : i < 200 := hi
    have m1 := Int.emod_nonneg (near * 46649 + (0 + (i : Nat)) * 709 + 1009 * at_ + 31) (by decide : (2147483137 : Int) ≠ 0)
    have m2 := Int.emod_lt_of_pos (near * 46649 + (0 + (i : Nat)) * 709 + 1009 * at_ + 31) (by decide : (0 : Int) < 2147483137)
    have g1 := Int.emod_nonneg (far * far + 40961 * (0 + (i : Nat)) + 7001) (by decide : (2147483123 : Int) ≠ 0)
    have g2 := Int.emod_lt_of_pos (far * far + 40961 * (0 + (i : Nat)) + 7001) (by decide : (0 : Int) < 2147483123)
    generalize hn : (near * 46649 + (0 + (i : Nat)) * 709 + 1009 * at_ + 31) % 2147483137 = near' at m1 m2
    generalize hg : (far * far + 40961 * (0 + (i : Nat)) + 7001) % 2147483123 = far' at g1 g2
    have x1 := Int.emod_nonneg (near' * far' + 29 * (0 + (i : Nat))) (by decide : (2147483122 : Int) ≠ 0)
    have x2 := Int.emod_lt_of_pos (near' * far' + 29 * (0 + (i : Nat))) (by decide : (0 : Int) < 2147483122)
    have big : CMulW full 2147483122 := wide_mul (a := 6500) (b := 64) (Nat.lt_of_le_of_lt hf (Nat.pow_lt_pow_right (by decide) (by omega))) (by decide) (by decide) (by decide) (by decide)
    refine ⟨lt! rfl, lt! rfl, cm (by omega) (by decide), cm (by omega) (by decide), cm (by decide) (by omega), (by decide : (0 : Int) < 2147483137), lt! rfl,
      lt! rfl, cm (by omega) (by omega), cm (by decide) (by omega), (by decide : (0 : Int) < 2147483123), lt! rfl, ?_⟩
    rw [← hn] at m1 m2 x1 x2
    rw [← hg] at g1 g2 x1 x2
    refine ⟨lt! rfl, big, cm (by omega) (by omega), cm (by decide) (by omega), (by decide : (0 : Int) < 2147483122), lt! rfl, _, _, _, _, m1, m2, g1, g2, full_step hf x1 x2, rfl⟩
  · rintro δ ⟨near, far, full, r, _, _, _, _, _, rfl⟩
    exact ⟨by show 1 ≤ sizeLine; decide, hq full _⟩
theorem pw1 : CPow 10 18 := ⟨by decide, by decide, by decide⟩
theorem pw2 : CPow 10 60 := ⟨by decide, by decide, by decide⟩
theorem pm1 : CMulW ((10 : Int) ^ Int.toNat 60) ((10 : Int) ^ Int.toNat 60) := by unfold CMulW; decide +kernel
theorem pm2 : CMulW ((10 : Int) ^ Int.toNat 60 * (10 : Int) ^ Int.toNat 60) ((10 : Int) ^ Int.toNat 60) := by unfold CMulW; decide +kernel
theorem pm3 : CMulW ((10 : Int) ^ Int.toNat 60 * (10 : Int) ^ Int.toNat 60 * (10 : Int) ^ Int.toNat 60) ((10 : Int) ^ Int.toNat 60) := by unfold CMulW; decide +kernel
def deep : Int := (10 : Int) ^ Int.toNat 60 * (10 : Int) ^ Int.toNat 60 * (10 : Int) ^ Int.toNat 60 * (10 : Int) ^ Int.toNat 60
theorem pm4 : CMulW deep deep := by unfold CMulW; decide +kernel
theorem pm5 : CMulW (deep * deep) deep := by unfold CMulW; decide +kernel
theorem pp : 0 < deep * deep * deep := by decide +kernel
theorem law_l_pump (α : Dl) (Q : SD → Dl → Prop) (E : XQ) (h : ds_l_pump α Q E) : ws_l_pump { nx := finD α Q (.d .non), rt := finD α Q } (finE α E) (startD N_l_pump α) := by
  obtain ⟨ns, at_, rfl, a0, a1, hq⟩ := h
  have tail : ∀ cell : Int, ws_l_pump_t2 { nx := finD [some (.d (.scr ns)), some (.d (.int at_))] Q (.d .non), rt := finD [some (.d (.scr ns)), some (.d (.int at_))] Q } (finE [some (.d (.scr ns)), some (.d (.int at_))] E)
      [some (.d (.scr ns)), some (.d (.int at_)), some (.d (.int cell)), none, none, none, none, none] := by
    intro cell
    refine ⟨pw1, ?_⟩
    show if decide ((10 : Int) ^ 18 ≤ cell) = true then _ else _
    by_cases c : (10 : Int) ^ 18 ≤ cell
    · rw [if_pos (decide_eq_true c)]
      refine ⟨lt! rfl, pw2, pw2, pm1, pw2, pm2, pw2, pm3, lt! rfl, pw1, pm4, pm5, pp, by show 1 ≤ sizeLine; decide, hq _⟩
    · rw [if_neg (by simpa using c)]
      refine ⟨cm (by decide) (by omega), (by decide : (0 : Int) < 2147483137), (by decide : (0 : Int) < 2147483123), lt! rfl, lt! rfl, lt! rfl, ?_⟩
      have z := pump_t5 (ns := ns) (cell := cell) (dp := none) (E := finE [some (.d (.scr ns)), some (.d (.int at_))] E) (M := { nx := finD [some (.d (.scr ns)), some (.d (.int at_))] Q (.d .non), rt := finD [some (.d (.scr ns)), some (.d (.int at_))] Q }) a0 a1
        (Int.emod_nonneg (cell + 5 * at_) (by decide : (2147483137 : Int) ≠ 0)) (Int.emod_lt_of_pos (cell + 5 * at_) (by decide)) (Int.emod_nonneg cell (by decide : (2147483123 : Int) ≠ 0)) (Int.emod_lt_of_pos cell (by decide)) fun n r => hq n
      exact ⟨lt! rfl, z⟩
  refine ⟨lt! rfl, cm (by decide) (by omega), lt! rfl, ?_⟩
  show if decide (at_ < (ns.length : Nat)) = true then _ else _
  by_cases c : at_ < (ns.length : Nat)
  · rw [if_pos (decide_eq_true c)]
    obtain ⟨v, hv⟩ : ∃ v, L2.atI ns at_ = some v := by
      obtain ⟨k, rfl⟩ := Int.eq_ofNat_of_zero_le a0
      have lt : k < ns.length := by omega
      exact ⟨ns[k], L2.atI_nat (List.getElem?_eq_getElem lt)⟩
    refine ⟨lt! rfl, ?_⟩
    show (match L2.atI ns at_ with | some d => _ | none => False)
    rw [hv]
    exact ⟨lt! rfl, tail v⟩
  · rw [if_neg (by simpa using c)]
    exact tail _
def ds_l_cup : DSp := fun α Q _ => ∃ n m : Int, α = [some (.p (.l [.int n])), some (.d (.int m))] ∧ 0 < m ∧ m.natAbs.log2 < 9000 ∧ Q (.d (.int (n % m))) [some (.p (.l [.int (n / m)])), some (.d (.int m))]
theorem len_l_cup (α : Dl) (Q : SD → Dl → Prop) (E : XQ) (h : ds_l_cup α Q E) : α.length = 2 ∧ ∀ (i : Nat) (c : Cn), α[i]? ≠ some (some (.o c)) := by
  obtain ⟨n, m, rfl, _⟩ := h
  exact lenOf rfl rfl
theorem law_l_cup (α : Dl) (Q : SD → Dl → Prop) (E : XQ) (h : ds_l_cup α Q E) : ws_l_cup { nx := finD α Q (.d .non), rt := finD α Q } (finE α E) (startD N_l_cup α) := by
  obtain ⟨n, m, rfl, h0, h1, hq⟩ := h
  exact ⟨lt! rfl, h0, lt! rfl, ⟨h0, h1⟩, ⟨_, rfl⟩, hq⟩
theorem use_cup {n m : Int} {Q : SD → Dl → Prop} {E : XQ} (h0 : 0 < m) (h1 : m ≤ 100000) (q : ∀ n' j : Int, 0 ≤ j → j < m → Q (.d (.int j)) [some (.p (.l [.int n'])), some (.d (.int m))]) : ds_l_cup [some (.p (.l [.int n])), some (.d (.int m))] Q E :=
  ⟨n, m, rfl, h0, log_5000 (by omega) h1, q _ _ (Int.emod_nonneg n (Int.ne_of_gt h0)) (Int.emod_lt_of_pos n h0)⟩
def ds_l_mixed : DSp := fun α Q _ => ∃ (n : Int) (rows : List D), α = [some (.p (.l [.int n])), some (.d (.lst rows))] ∧ rows.length < 4000 ∧
  ∀ (n' : Int) (found : List D), found.Perm rows → Q (.d (.lst found)) [some (.p (.l [.int n'])), some (.d (.lst rows))]
theorem len_l_mixed (α : Dl) (Q : SD → Dl → Prop) (E : XQ) (h : ds_l_mixed α Q E) : α.length = 2 ∧ ∀ (i : Nat) (c : Cn), α[i]? ≠ some (some (.o c)) := by
  obtain ⟨n, m, rfl, _⟩ := h
  exact lenOf rfl rfl
theorem law_l_mixed (α : Dl) (Q : SD → Dl → Prop) (E : XQ) (h : ds_l_mixed α Q E) : ws_l_mixed ds_l_cup { nx := finD α Q (.d .non), rt := finD α Q } (finE α E) (startD N_l_mixed α) := by
  obtain ⟨n, rows, rfl, few, hq⟩ := h
  unfold ws_l_mixed ws_l_mixed_t1
  walk_at "wp"
  refine for_D rows (fun pre δ => ∃ (n' : Int) (xs : List D) (r s : Option SD), xs.Perm pre ∧ δ = [some (.p (.l [.int n'])), some (.d (.lst rows)), some (.o (.l xs)), r, s]) (fun Q h => by walk_at "wp"; exact h) ⟨n, [], none, none, .nil, rfl⟩ ?_ ?_
  · rintro pre d post δ' ex ⟨n', xs, r, s, pm, rfl⟩
    have xl := pm.length_eq
    have pl : pre.length < 4000 := by rw [ex, List.length_append] at few; omega
    unfold ws_l_mixed_b1
    walk_at "wp"
    refine use_cup (by omega) (by omega) fun n2 j j0 j1 => ?_
    walk_at "wp"
    rw [cut_to _ j0, cut_from _ j0]
    have := List.length_take_le j.toNat xs
    have := List.length_drop (l := xs) (i := j.toNat)
    refine ⟨by omega, by omega, n2, _, some (.d d), some (.d (.int j)), (insert_perm xs d j.toNat).trans (pm.append (List.Perm.refl [d])), rfl⟩
  · rintro δ' ⟨n', xs, r, s, pm, rfl⟩
    unfold ws_l_mixed_t2
    walk_at "wp"
    exact hq n' xs pm
theorem use_mixed {α : Type} {f : α → D} {n : Int} {ys : List α} {Q : SD → Dl → Prop} {E : XQ} (h : ys.length < 4000) (q : ∀ (n' : Int) (zs : List α), zs.Perm ys → Q (.d (.lst (zs.map f))) [some (.p (.l [.int n'])), some (.d (.lst (ys.map f)))]) :
    ds_l_mixed [some (.p (.l [.int n])), some (.d (.lst (ys.map f)))] Q E :=
  ⟨n, _, rfl, by rw [List.length_map]; exact h, fun n' found pm => by
    obtain ⟨us, rfl, pm2⟩ := perm_map_inv pm ys rfl
    exact q n' us pm2⟩
def lift (o : List Str) (x : Str) (j : Nat) : List Str := (o.filter fun y => !decide (y = x)).take j ++ [x] ++ (o.filter fun y => !decide (y = x)).drop j
theorem lift_perm {o : List Str} {x : Str} (nd : o.Nodup) (hx : x ∈ o) (j : Nat) : (lift o x j).Perm o := by
  unfold lift
  refine (insert_perm _ x j).trans ?_
  have h1 : (o.filter fun y => !decide (y = x)) = o.erase x := by
    rw [List.Nodup.erase_eq_filter nd]
    refine List.filter_congr fun y _ => ?_
    by_cases q : y = x <;> simp [q, bne]
  rw [h1]
  exact List.perm_append_comm.trans (List.perm_cons_erase hx).symm
def ds_l_lifted : DSp := fun α Q _ => ∃ (n : Int) (names : List Str) (name : Str), α = [some (.p (.l [.int n])), some (.d (.lst (names.map .str))), some (.d (.str name))] ∧ names.length < 4000 ∧ name ∈ names ∧ names.Nodup ∧
  ∀ (n' : Int) (j : Nat), j ≤ names.idxOf name → Q (.o (.l ((lift names name j).map .str))) [some (.p (.l [.int n'])), some (.d (.lst (names.map .str))), some (.d (.str name))]
theorem len_l_lifted (α : Dl) (Q : SD → Dl → Prop) (E : XQ) (h : ds_l_lifted α Q E) : α.length = 3 ∧ ∀ (i : Nat) (c : Cn), α[i]? ≠ some (some (.o c)) := by
  obtain ⟨n, m, x, rfl, _⟩ := h
  exact lenOf rfl rfl
theorem law_l_lifted (α : Dl) (Q : SD → Dl → Prop) (E : XQ) (h : ds_l_lifted α Q E) : ws_l_lifted ds_l_cup { nx := finD α Q (.d .non), rt := finD α Q } (finE α E) (startD N_l_lifted α) := by
  obtain ⟨n, names, name, rfl, few, hin, nd, hq⟩ := h
  unfold ws_l_lifted
  walk_at "wp"
  refine lc_filter names .str (fun y => !decide (y = name)) (fun Q h => by walk_at "wp"; exact h) (by omega) (okW_of rfl) (fun y hy R S hR hS => ?_) ?_
  · walk_at "wp"
    by_cases q : y = name <;> simp only [q, decide_true, decide_false, Bool.not_true, Bool.not_false, if_true, if_false, not_true_eq_false, not_false_eq_true] at hR hS ⊢
    · exact hS trivial
    · exact hR trivial
  · unfold ws_l_lifted_t1
    have ix : names.idxOf name < names.length := List.idxOf_lt_length_of_mem hin
    walk_at "wp"
    refine ⟨hin, use_cup (by omega) (by omega) fun n2 j j0 j1 => ?_⟩
    unfold ws_l_lifted_t2
    walk_at "wp"
    have fl := List.length_filter_le (fun y => !decide (y = name)) names
    rw [cut_to _ j0, cut_from _ j0]
    have := List.length_take_le j.toNat ((names.filter fun y => !decide (y = name)).map D.str)
    have h2 := List.length_drop (l := (names.filter fun y => !decide (y = name)).map D.str) (i := j.toNat)
    rw [List.length_map] at h2
    refine ⟨by omega, by omega, ?_⟩
    have z := hq n2 j.toNat (by omega)
    unfold lift at z
    rw [List.map_append, List.map_append, List.map_take, List.map_drop] at z
    exact z
theorem joinL_nil (cs : List Nat) : TL.joinL [] (cs.map fun c => [c]) = cs := by
  induction cs with
  | nil => rfl
  | cons c cs ih =>
    cases cs with
    | nil => rfl
    | cons d r =>
      have e : TL.joinL [] ((c :: d :: r).map fun c => [c]) = [c] ++ ([] ++ TL.joinL [] ((d :: r).map fun c => [c])) := rfl
      rw [e, ih]
      rfl
theorem join_chars (cs : List Nat) : charsS (Txt.join ("" : Str) (cs.map fun c => (⟨#[c]⟩ : Str))) = cs.map fun c => (⟨#[c]⟩ : Str) := by
  have e : TL.tl (Txt.join ("" : Str) (cs.map fun c => (⟨#[c]⟩ : Str))) = cs := by
    rw [TL.join_eq, TL.tl_join, List.map_map]
    exact joinL_nil cs
  show (TL.tl (Txt.join ("" : Str) (cs.map fun c => (⟨#[c]⟩ : Str)))).map (fun c => (⟨#[c]⟩ : Str)) = _
  rw [e]
def LET25 : Str := "abcdefghijklmnopqrstuvwxy"
theorem let25 : ∀ x ∈ charsS LET25, letterIn x = true := by decide +kernel
def wordB (s : Str) : Bool := nameB s && (charsS s).all fun c => decide (c ∈ charsS LET25)
theorem wordB_name {s : Str} (h : wordB s = true) : nameB s = true := (Bool.and_eq_true_iff.mp h).1
theorem wordB_join {xs : List Str} (h1 : 1 ≤ xs.length) (h8 : xs.length ≤ 8) (h : ∀ x ∈ xs, ∃ c, x = ⟨#[c]⟩ ∧ x ∈ charsS LET25) : wordB (Txt.join ("" : Str) xs) = true := by
  obtain ⟨cs, rfl⟩ : ∃ cs : List Nat, xs = cs.map fun c => (⟨#[c]⟩ : Str) := by
    clear h1 h8
    induction xs with
    | nil => exact ⟨[], rfl⟩
    | cons x xs ih =>
      obtain ⟨c, hc, _⟩ := h x List.mem_cons_self
      obtain ⟨cs, e⟩ := ih fun y hy => h y (List.mem_cons_of_mem _ hy)
      exact ⟨c :: cs, by rw [hc, e]; rfl⟩
  have e := join_chars cs
  have el : (Txt.join ("" : Str) (cs.map fun c => (⟨#[c]⟩ : Str))).length = cs.length := by
    rw [← charsS_len, e, List.length_map]
  unfold wordB nameB
  rw [el, e]
  rw [List.length_map] at h1 h8
  simp only [Bool.and_eq_true, decide_eq_true_eq, List.all_eq_true]
  exact ⟨⟨⟨h1, h8⟩, fun x hx => let ⟨c, _, h2⟩ := h x hx; let25 x h2⟩, fun x hx => let ⟨c, _, h2⟩ := h x hx; h2⟩
def xys : List Str := (charsS LET25).map fun c => ("xy" : Str) ++ c
theorem xys_ok : xys.Nodup ∧ (∀ x ∈ xys, wordB x = true) ∧ xys.length = 25 := by decide +kernel
def ds_l_crew : DSp := fun α Q _ => ∃ (n m : Int), α = [some (.p (.l [.int n])), some (.d (.int m))] ∧ 0 ≤ m ∧ m ≤ 24 ∧
  ∀ (n' : Int) (found : List Str), (found.length : Int) = m → found.Nodup → (∀ x ∈ found, wordB x = true) → Q (.d (sL found)) [some (.p (.l [.int n'])), some (.d (.int m))]
theorem len_l_crew (α : Dl) (Q : SD → Dl → Prop) (E : XQ) (h : ds_l_crew α Q E) : α.length = 2 ∧ ∀ (i : Nat) (c : Cn), α[i]? ≠ some (some (.o c)) := by
  obtain ⟨n, m, rfl, _⟩ := h
  exact lenOf rfl rfl
theorem crew_word {n size : Int} {α1 α3 α4 α6 α8 α9 : Option SD} {Q : SD → Dl → Prop} {E : XQ} (h0 : 1 ≤ size) (h1 : size ≤ 8)
    (hq : ∀ (n' : Int) (xs : List Str), xs.length = size.toNat → (∀ x ∈ xs, ∃ c, x = ⟨#[c]⟩ ∧ x ∈ charsS LET25) → Q (.o (.l (xs.map .str))) [some (.p (.l [.int n'])), α1, some (.d (.str LET25)), α3, α4, some (.d (.int size)), α6, none, α8, α9]) :
    wLc (wiRng1 (wCons (wVar 5) wNil)) (wgN 7) wYes (eF (wBin sIx (oVar 2) (fO (eF (wFnP ds_l_cup 0 (wCons (wC (.int 25)) wNil)))))) [7] [some (.p (.l [.int n])), α1, some (.d (.str LET25)), α3, α4, some (.d (.int size)), α6, none, α8, α9] Q E := by
  unfold wLc
  walk_at "wp"
  refine ⟨⟨by omega, by omega⟩, fun i ys δ => ∃ (n' : Int) (zs : List Str), zs.length = i ∧ (∀ x ∈ zs, ∃ c, x = ⟨#[c]⟩ ∧ x ∈ charsS LET25) ∧ ys = zs.map .str ∧
    δ = [some (.p (.l [.int n'])), α1, some (.d (.str LET25)), α3, α4, some (.d (.int size)), α6, none, α8, α9], ⟨n, [], rfl, (fun x h => nomatch h), rfl, rfl⟩, ?_, ?_⟩
  · rintro i d ys δ hd ⟨n', zs, hz, hl, rfl, rfl⟩
    obtain ⟨hi, rfl⟩ := rangeD_get hd
    refine ⟨okW_of rfl, ?_⟩
    walk_at "wp"
    refine use_cup (by omega) (by omega) fun n2 j j0 j1 => ?_
    have len25 : LET25.cps.toList.length = 25 := by decide +kernel
    obtain ⟨c, ec, hc⟩ := atI_any (xs := LET25.cps.toList) j0 (by rw [len25]; exact j1)
    walk_at "wp"
    rw [ec]
    refine ⟨by decide +kernel, ?_⟩
    walk_at "wp"
    have hcl : (⟨#[c]⟩ : Str) ∈ charsS LET25 := List.mem_map.mpr ⟨c, hc, rfl⟩
    refine ⟨by omega, n2, zs ++ [⟨#[c]⟩], by rw [List.length_append, hz]; rfl, fun x hx => ?_, by rw [List.map_append]; rfl, rfl⟩
    rcases List.mem_append.mp hx with hx | hx
    · exact hl x hx
    · rw [List.mem_singleton.mp hx]
      exact ⟨c, rfl, hcl⟩
  · rintro ys δ ⟨n', zs, hz, hl, rfl, rfl⟩
    rw [rangeD_len] at hz
    exact hq n' zs (by omega) hl
theorem law_l_crew (α : Dl) (Q : SD → Dl → Prop) (E : XQ) (h : ds_l_crew α Q E) : ws_l_crew ds_l_cup { nx := finD α Q (.d .non), rt := finD α Q } (finE α E) (startD N_l_crew α) := by
  obtain ⟨n, m, rfl, m0, m1, hq⟩ := h
  unfold ws_l_crew ws_l_crew_t1
  walk_at "wp"
  refine for_rng m.toNat (fun i δ => ∃ (n' : Int) (fd : List Str) (r4 r5 r6 : Option SD), fd.length = i ∧ fd.Nodup ∧ (∀ x ∈ fd, wordB x = true) ∧
    δ = [some (.p (.l [.int n'])), some (.d (.int m)), some (.d (.str LET25)), some (.o (.l (fd.map .str))), r4, r5, r6, none, none, none]) (fun Q h => by walk_at "wp"; exact ⟨by omega, h⟩) ⟨n, [], none, none, none, rfl, List.nodup_nil, (fun x h => nomatch h), rfl⟩ ?_ ?_
  · rintro k δ' hk ⟨n', fd, r4, r5, r6, fl, nd, nb, rfl⟩
    unfold ws_l_crew_b1
    walk_at "wp"
    refine use_cup (by omega) (by omega) fun n2 j j0 j1 => ?_
    obtain ⟨d, ed, hd⟩ := atI_any (xs := [D.int 1, D.int 1, D.int 2, D.int 3, D.int 8, D.int 4, D.int 5, D.int 6, D.int 7]) j0 (by simpa using j1)
    obtain ⟨size, rfl, s0, s1⟩ : ∃ size : Int, d = .int size ∧ 1 ≤ size ∧ size ≤ 8 := by
      simp only [List.mem_cons, List.not_mem_nil, or_false] at hd
      rcases hd with h | h | h | h | h | h | h | h | h <;> exact ⟨_, h, by decide, by decide⟩
    walk_at "wp"
    rw [ed]
    walk_at "wp"
    refine crew_word s0 s1 fun n3 xs xl hx => ?_
    walk_at "wp"
    have hsum : (xs.map (·.length)).sum = xs.length := by
      clear xl
      induction xs with
      | nil => rfl
      | cons x xs ih =>
        obtain ⟨c, rfl, _⟩ := hx x List.mem_cons_self
        rw [List.map_cons, List.sum_cons, ih fun y hy => hx y (List.mem_cons_of_mem _ hy), List.length_cons]
        show 1 + xs.length = _
        omega
    have hj : wordB (Txt.join ("" : Str) xs) = true := wordB_join (by omega) (by omega) hx
    refine ⟨by rw [hsum]; show xs.length + xs.length * 0 ≤ _; omega, ?_⟩
    generalize Txt.join ("" : Str) xs = word at hj ⊢
    -- the end of the turn, whatever the word is
    have fin : ∀ (w : Str) (r8 r9 : Option SD), w ∉ fd → wordB w = true → r8 = none → r9 = none → ∃ (n' : Int) (fd' : List Str) (r4 r5 r6 : Option SD), fd'.length = k + 1 ∧ fd'.Nodup ∧ (∀ x ∈ fd', wordB x = true) ∧
        [some (.p (.l [.int n3])), some (.d (.int m)), some (.d (.str LET25)), some (.o (.l (fd.map .str ++ [.str w]))), some (.d (.int k)), some (.d (.int size)), some (.d (.str w)), none, r8, r9] = [some (.p (.l [.int n'])), some (.d (.int m)), some (.d (.str LET25)), some (.o (.l (fd'.map .str))), r4, r5, r6, none, none, none] := by
      rintro w r8 r9 hw hn rfl rfl
      refine ⟨n3, fd ++ [w], _, _, _, by rw [List.length_append, fl]; rfl, ?_, fun x hx => ?_, by rw [List.map_append]; rfl⟩
      · rw [List.nodup_append]
        exact ⟨nd, by simp, fun a ha b hb => by rw [List.mem_singleton.mp hb]; exact fun z => hw (z ▸ ha)⟩
      · rcases List.mem_append.mp hx with hx | hx
        · exact nb x hx
        · rw [List.mem_singleton.mp hx]; exact hn
    by_cases c : word ∈ fd
    · simp only [c, if_true]
      walk_at "wq"
      refine lc_filter xys .str (fun y => !decide (y ∈ fd)) (fun Q h => by
        walk_at "wp"
        refine lc_map (charsS LET25) .str (fun c => ("xy" : Str) ++ c) .str (fun Q h => by walk_at "wp"; rw [charsD_eq]; exact h) (by decide +kernel) (okW_of rfl) (fun y hy R S hR => ?_) ?_
        · walk_at "wp"
          obtain ⟨c, _, rfl⟩ := List.mem_map.mp hy
          exact ⟨by show 2 + 1 ≤ 16777216; decide, hR⟩
        · walk_at "wp"
          exact h) (by rw [xys_ok.2.2]; decide) (okW_of rfl) (fun y hy R S hR hS => ?_) ?_
      · walk_at "wp"
        by_cases q : y ∈ fd <;> simp only [q, decide_true, decide_false, Bool.not_true, Bool.not_false, if_true, if_false, not_true_eq_false, not_false_eq_true] at hR hS ⊢
        · exact hS trivial
        · exact hR trivial
      · walk_at "wp"
        have hne : xys.filter (fun y => !decide (y ∈ fd)) ≠ [] := fun e => by
          have h1 : ∀ x ∈ xys, x ∈ fd := fun x hx => by
            by_cases q : x ∈ fd
            · exact q
            · have : x ∈ xys.filter (fun y => !decide (y ∈ fd)) := List.mem_filter.mpr ⟨hx, by simp [q]⟩
              rw [e] at this; cases this
          have h2 := nodup_sub_len xys_ok.1 h1
          rw [xys_ok.2.2] at h2
          omega
        cases ef : xys.filter (fun y => !decide (y ∈ fd)) with
        | nil => exact absurd ef hne
        | cons w ws =>
          have hw : w ∈ xys.filter (fun y => !decide (y ∈ fd)) := by rw [ef]; exact List.mem_cons_self
          obtain ⟨hw1, hw2⟩ := List.mem_filter.mp hw
          walk_at "wp"
          simp only [atI_0]
          exact ⟨by omega, fin w none none (by simpa using hw2) (xys_ok.2.1 w hw1) rfl rfl⟩
    · simp only [c, if_false]
      walk_at "wq"
      exact ⟨by omega, fin word none none c hj rfl rfl⟩
  · rintro δ' ⟨n', fd, r4, r5, r6, fl, nd, nb, rfl⟩
    unfold ws_l_crew_t2
    walk_at "wp"
    exact hq n' fd (by omega) nd nb
end Sp
namespace Sp
open PySem L2 DL
local macro_rules | `(tactic| walk_at "wp") => `(tactic| simp only [wSeq, wIf, wAnd, wOr, wNot, vAnd, vOr, vNot, wB, wBin, wChain, wRet, wRetN, wNext, wNever, wIfE, eF, fO, fS, wNeg, wC, wVar, oVar, wDrop, wSet, wNil, wCons, wLst, wTup, wCall, wFn, wFnP,  wTwo, wThree, wPar, wPar3, wUn, wgN, wgTup, wgCons, wgNil, wAugI, wIsN, sIsN, nonB, wXf, wRaise, wMet, tyOk, sLen, sToInt, sList, sListD, sTuple, sAdd, sInt, sInt0, sIn, sEq, sEqD, sEqX_nil, sEqX_str, sEqX_int, sEqX_bl, sEqX_non, sEqX_sL, sEqX_iL, sEqX_sT, List.isEmpty_map, flt_all, List.isEmpty_nil, List.isEmpty_cons, sIx, sCut, wCut, wNoP, wSoP, wYes, wBreak, wCont, wApp, wPut, wFld, wMeth, wMake, wSetF, putD, nons, wIxD, wInD, wGet2, wNewD, wPutD, wEqO, wMin2, wMax2, wMaxLen, wRev, keyD,  wiSeq, wiTup, wiStr, wiRng1, wiRng2, wiEnum, outSlot,  view, SD.fz, Cn.fz, D.strip, asB, ownOf, keepKind, argsD, finD, finE, backD, startD, wipeD, unblk,  isi_list_lst, isi_list_tup, isi_list_str, isi_list_int, isi_list_bl, isi_list_non, isi_list_dic, isi_tup_lst, isi_tup_tup, isi_tup_str, isi_tup_int, isi_tup_bl, isi_tup_non, isi_tup_dic, isi_str_lst, isi_str_tup, isi_str_str, isi_str_int, isi_str_bl, isi_str_non, isi_str_dic,  isi_int_lst, isi_int_tup, isi_int_str, isi_int_int, isi_int_bl, isi_int_non, isi_int_dic, isi_bl_lst, isi_bl_tup, isi_bl_str, isi_bl_int, isi_bl_bl, isi_bl_non, isi_bl_dic,  eqOk_str, eqOk_int, eqOk_bl, eqOk_non, eqOk_sL, eqOk_iL, eqOk_nil, eqOk_nilT, deq_str, deq_int, deq_non, deq_sL, deq_iL, deq_sL_nil, deq_iL_nil, dmem_str, dmem_int, some_strs, some_ints, sIndex_str, sIndex_int, sJoin_str, sSum_int, sSorted_str, sSorted_int, keys_I, keys_S, valG_I, valG_S, putG_I, putG_S, encA_len, Option.isSome_map, PySem.sizeLine_eq,  List.getElem?_cons_succ, List.getElem?_cons_zero, List.getElem?_nil, List.set_cons_succ, List.set_cons_zero, List.length_cons, List.length_nil, List.length_map, List.length_append, List.map_cons, List.map_nil, List.cons_append, List.nil_append, List.replicate_succ, List.replicate_zero, List.getD_cons_succ, List.getD_cons_zero, List.lookup_cons, List.lookup_nil, nm_players_crew, nm_moments_crew, nm_tops_crew, nm_above_crew, nm_check_moment_crew, nm_with_look_crew, nm_all_looks_crew, nm_until_crew, nm_renamed_crew, nm_is_pair_crew, nm_rows_crew, nm_least_at_crew, nm_most_at_crew, nm_seen_crew, nm_folk_crew, nm_shown_crew, nm_notes_crew, nm_count_crew, nm_total_crew, nm_look_crew, nm_undo_crew, nm_copy_crew, nm_sight_crew, nm_players_seen, nm_moments_seen, nm_tops_seen, nm_above_seen, nm_check_moment_seen, nm_with_look_seen, nm_all_looks_seen, nm_until_seen, nm_renamed_seen, nm_is_pair_seen, nm_rows_seen, nm_least_at_seen, nm_most_at_seen, nm_crew_seen, nm_folk_seen, nm_shown_seen, nm_notes_seen, nm_count_seen, nm_total_seen, nm_look_seen, nm_undo_seen, nm_copy_seen, nm_sight_seen, nm_players_folk, nm_moments_folk, nm_tops_folk, nm_above_folk, nm_check_moment_folk, nm_with_look_folk, nm_all_looks_folk, nm_until_folk, nm_renamed_folk, nm_is_pair_folk, nm_rows_folk, nm_least_at_folk, nm_most_at_folk, nm_crew_folk, nm_seen_folk, nm_shown_folk, nm_notes_folk, nm_count_folk, nm_total_folk, nm_look_folk, nm_undo_folk, nm_copy_folk, nm_sight_folk, nm_players_shown, nm_moments_shown, nm_tops_shown, nm_above_shown, nm_check_moment_shown, nm_with_look_shown, nm_all_looks_shown, nm_until_shown, nm_renamed_shown, nm_is_pair_shown, nm_rows_shown, nm_least_at_shown, nm_most_at_shown, nm_crew_shown, nm_seen_shown, nm_folk_shown, nm_notes_shown, nm_count_shown, nm_total_shown, nm_look_shown, nm_undo_shown, nm_copy_shown, nm_sight_shown, nm_players_notes, nm_moments_notes, nm_tops_notes, nm_above_notes, nm_check_moment_notes, nm_with_look_notes, nm_all_looks_notes, nm_until_notes, nm_renamed_notes, nm_is_pair_notes, nm_rows_notes, nm_least_at_notes, nm_most_at_notes, nm_crew_notes, nm_seen_notes, nm_folk_notes, nm_shown_notes, nm_count_notes, nm_total_notes, nm_look_notes, nm_undo_notes, nm_copy_notes, nm_sight_notes,  Nat.reduceAdd, Nat.reduceSub, Nat.reduceLT, Nat.reduceLeDiff, Nat.reduceMul, Nat.reduceEqDiff, Nat.zero_add, Nat.add_zero, Nat.lt_add_left_iff_pos, Nat.le_add_left, Nat.zero_le, Nat.zero_lt_succ, Nat.succ_lt_succ_iff,  Cn.l.injEq, Cn.k.injEq, true_and, and_true, exists_eq', exists_eq_left', Option.some.injEq, Option.map_some, Option.map_none, Option.bind_some, Option.isSome_some, Option.isSome_none,  decide_eq_true_eq, Bool.false_eq_true, Bool.not_eq_true', Bool.not_true, Bool.not_false, Bool.not_not, Bool.true_xor, Bool.false_xor, decide_eq_false_iff_not, if_true, if_false, ite_true, ite_false, reduceIte, reduceCtorEq, decide_true, decide_false, decide_not, and_self, eq_self, ne_eq, not_true, not_false_eq_true, exists_const, and_imp, beq_self_eq_true])
local macro_rules | `(tactic| walk_at "wq") => `(tactic| try walk_at "wp")
local macro_rules | `(tactic| walk_at "w1") => `(tactic| simp only [wSeq_k, wIf, wAnd, wOr, wNot, vAnd, vOr, vNot, wB, wBin, wChain, wRet, wRetN, wNext, wNever, wIfE, eF, fO, fS, wNeg, wC, wVar, oVar, wDrop, wSet, wNil, wCons, wLst, wTup, wCall, wFn, wFnP,  wTwo, wThree, wPar, wPar3, wUn, wgN, wgTup, wgCons, wgNil, wAugI, wIsN, sIsN, nonB, wXf, wRaise, wMet, tyOk, sLen, sToInt, sList, sListD, sTuple, sAdd, sInt, sInt0, sIn, sEq, sEqD, sEqX_nil, sEqX_str, sEqX_int, sEqX_bl, sEqX_non, sEqX_sL, sEqX_iL, sEqX_sT, List.isEmpty_map, flt_all, List.isEmpty_nil, List.isEmpty_cons, sIx, sCut, wCut, wNoP, wSoP, wYes, wBreak, wCont, wApp, wPut, wFld, wMeth, wMake, wSetF, putD, nons, wIxD, wInD, wGet2, wNewD, wPutD, wEqO, wMin2, wMax2, wMaxLen, wRev, keyD,  wiSeq, wiTup, wiStr, wiRng1, wiRng2, wiEnum, outSlot,  view, SD.fz, Cn.fz, D.strip, asB, ownOf, keepKind, argsD, finD, finE, backD, startD, wipeD, unblk,  isi_list_lst, isi_list_tup, isi_list_str, isi_list_int, isi_list_bl, isi_list_non, isi_list_dic, isi_tup_lst, isi_tup_tup, isi_tup_str, isi_tup_int, isi_tup_bl, isi_tup_non, isi_tup_dic, isi_str_lst, isi_str_tup, isi_str_str, isi_str_int, isi_str_bl, isi_str_non, isi_str_dic,  isi_int_lst, isi_int_tup, isi_int_str, isi_int_int, isi_int_bl, isi_int_non, isi_int_dic, isi_bl_lst, isi_bl_tup, isi_bl_str, isi_bl_int, isi_bl_bl, isi_bl_non, isi_bl_dic,  eqOk_str, eqOk_int, eqOk_bl, eqOk_non, eqOk_sL, eqOk_iL, eqOk_nil, eqOk_nilT, deq_str, deq_int, deq_non, deq_sL, deq_iL, deq_sL_nil, deq_iL_nil, dmem_str, dmem_int, some_strs, some_ints, sIndex_str, sIndex_int, sJoin_str, sSum_int, sSorted_str, sSorted_int, keys_I, keys_S, valG_I, valG_S, putG_I, putG_S, encA_len, Option.isSome_map, PySem.sizeLine_eq,  List.getElem?_cons_succ, List.getElem?_cons_zero, List.getElem?_nil, List.set_cons_succ, List.set_cons_zero, List.length_cons, List.length_nil, List.length_map, List.length_append, List.map_cons, List.map_nil, List.cons_append, List.nil_append, List.replicate_succ, List.replicate_zero, List.getD_cons_succ, List.getD_cons_zero, List.lookup_cons, List.lookup_nil, nm_players_crew, nm_moments_crew, nm_tops_crew, nm_above_crew, nm_check_moment_crew, nm_with_look_crew, nm_all_looks_crew, nm_until_crew, nm_renamed_crew, nm_is_pair_crew, nm_rows_crew, nm_least_at_crew, nm_most_at_crew, nm_seen_crew, nm_folk_crew, nm_shown_crew, nm_notes_crew, nm_count_crew, nm_total_crew, nm_look_crew, nm_undo_crew, nm_copy_crew, nm_sight_crew, nm_players_seen, nm_moments_seen, nm_tops_seen, nm_above_seen, nm_check_moment_seen, nm_with_look_seen, nm_all_looks_seen, nm_until_seen, nm_renamed_seen, nm_is_pair_seen, nm_rows_seen, nm_least_at_seen, nm_most_at_seen, nm_crew_seen, nm_folk_seen, nm_shown_seen, nm_notes_seen, nm_count_seen, nm_total_seen, nm_look_seen, nm_undo_seen, nm_copy_seen, nm_sight_seen, nm_players_folk, nm_moments_folk, nm_tops_folk, nm_above_folk, nm_check_moment_folk, nm_with_look_folk, nm_all_looks_folk, nm_until_folk, nm_renamed_folk, nm_is_pair_folk, nm_rows_folk, nm_least_at_folk, nm_most_at_folk, nm_crew_folk, nm_seen_folk, nm_shown_folk, nm_notes_folk, nm_count_folk, nm_total_folk, nm_look_folk, nm_undo_folk, nm_copy_folk, nm_sight_folk, nm_players_shown, nm_moments_shown, nm_tops_shown, nm_above_shown, nm_check_moment_shown, nm_with_look_shown, nm_all_looks_shown, nm_until_shown, nm_renamed_shown, nm_is_pair_shown, nm_rows_shown, nm_least_at_shown, nm_most_at_shown, nm_crew_shown, nm_seen_shown, nm_folk_shown, nm_notes_shown, nm_count_shown, nm_total_shown, nm_look_shown, nm_undo_shown, nm_copy_shown, nm_sight_shown, nm_players_notes, nm_moments_notes, nm_tops_notes, nm_above_notes, nm_check_moment_notes, nm_with_look_notes, nm_all_looks_notes, nm_until_notes, nm_renamed_notes, nm_is_pair_notes, nm_rows_notes, nm_least_at_notes, nm_most_at_notes, nm_crew_notes, nm_seen_notes, nm_folk_notes, nm_shown_notes, nm_count_notes, nm_total_notes, nm_look_notes, nm_undo_notes, nm_copy_notes, nm_sight_notes,  Nat.reduceAdd, Nat.reduceSub, Nat.reduceLT, Nat.reduceLeDiff, Nat.reduceMul, Nat.reduceEqDiff, Nat.zero_add, Nat.add_zero, Nat.lt_add_left_iff_pos, Nat.le_add_left, Nat.zero_le, Nat.zero_lt_succ, Nat.succ_lt_succ_iff,  Cn.l.injEq, Cn.k.injEq, true_and, and_true, exists_eq', exists_eq_left', Option.some.injEq, Option.map_some, Option.map_none, Option.bind_some, Option.isSome_some, Option.isSome_none,  decide_eq_true_eq, Bool.false_eq_true, Bool.not_eq_true', Bool.not_true, Bool.not_false, Bool.not_not, Bool.true_xor, Bool.false_xor, decide_eq_false_iff_not, if_true, if_false, ite_true, ite_false, reduceIte, reduceCtorEq, decide_true, decide_false, decide_not, and_self, eq_self, ne_eq, not_true, not_false_eq_true, exists_const, and_imp, beq_self_eq_true])
local macro_rules | `(tactic| walk_at "ws") => `(tactic| repeat (first | refine kont_intro ?_ | walk_at "w1"))
inductive Lifts : List Str → List Str → List Str → Prop
  | nil (o : List Str) : Lifts [] o o
  | snoc {ns : List Str} {o o' : List Str} {x : Str} {j : Nat} : Lifts ns o o' → x ∈ o' → j ≤ o'.idxOf x → Lifts (ns ++ [x]) o (lift o' x j)
theorem Lifts.perm {ns o o' : List Str} (h : Lifts ns o o') (nd : o.Nodup) : o'.Perm o ∧ o'.Nodup ∧ ∀ x ∈ ns, x ∈ o := by
  induction h with
  | nil o => exact ⟨.refl _, nd, fun x h => nomatch h⟩
  | snoc h hx _ ih =>
    obtain ⟨h1, h2, h3⟩ := ih nd
    have p := lift_perm h2 hx
    refine ⟨(p _).trans h1, (p _).nodup_iff.mpr h2, fun y hy => ?_⟩
    rcases List.mem_append.mp hy with hy | hy
    · exact h3 y hy
    · rw [List.mem_singleton.mp hy]
      exact h1.mem_iff.mp hx
abbrev Hd := Int × List Str × List Str
abbrev encH (h : Hd) : D := .tup [.int h.1, sL h.2.1, sL h.2.2]
inductive HOk (o0 : List Str) : List Hd → List Str → Prop
  | nil : HOk o0 [] o0
  | snoc {hs : List Hd} {o o' raw : List Str} {m : Int} : HOk o0 hs o → (∀ h ∈ hs, h.1 < m) → Lifts raw o o' → (hs = [] → raw = []) → HOk o0 (hs ++ [(m, o', ssort (TX.onceOf raw))]) o'
theorem HOk.last {o0 : List Str} {hs : List Hd} {o : List Str} (h : HOk o0 hs o) (nd : o0.Nodup) : o.Perm o0 ∧ o.Nodup ∧ ∀ r ∈ hs, r.2.1.Perm o0 := by
  induction h with
  | nil => exact ⟨.refl _, nd, fun r h => nomatch h⟩
  | snoc h _ l _ ih =>
    obtain ⟨h1, h2, h3⟩ := ih
    obtain ⟨h4, h5, _⟩ := l.perm h2
    refine ⟨h4.trans h1, h5, fun r hr => ?_⟩
    rcases List.mem_append.mp hr with hr | hr
    · exact h3 r hr
    · rw [List.mem_singleton.mp hr]
      exact h4.trans h1
def ds_l_hidden : DSp := fun α Q _ => ∃ (n many : Int) (crew : List Str), α = [some (.p (.l [.int n])), some (.d (sL crew)), some (.d (.int many))] ∧ 1 ≤ crew.length ∧ crew.length ≤ 100 ∧ crew.Nodup ∧ 0 ≤ many ∧ many ≤ 1000 ∧
  ∀ (n' : Int) (hs : List Hd) (o0 o : List Str), (hs.length : Int) = many → o0.Perm crew → HOk o0 hs o → (∀ h ∈ hs, -(10 ^ 39) ≤ h.1 ∧ h.1 < 10 ^ 36) → Q (.d (.lst (hs.map encH))) [some (.p (.l [.int n'])), some (.d (sL crew)), some (.d (.int many))]
theorem len_l_hidden (α : Dl) (Q : SD → Dl → Prop) (E : XQ) (h : ds_l_hidden α Q E) : α.length = 3 ∧ ∀ (i : Nat) (c : Cn), α[i]? ≠ some (some (.o c)) := by
  obtain ⟨n, m, x, rfl, _⟩ := h
  exact lenOf rfl rfl
def OrdS (o : List Str) (sd : Option SD) : Prop := sd = some (.d (sL o)) ∨ sd = some (.o (.l (o.map .str)))
theorem hidden_b1 {n : Int} {crew o : List Str} {r2 r4 r5 r6 r7 r8 : Option SD} {sd : Option SD} {k : Nat} {raw : List Str} {M : WEnds} {E : XQ} {r11 : Option SD} (hc : 1 ≤ crew.length) (hc2 : crew.length ≤ 100) (hs : OrdS o sd) (pm : o.Perm crew) (nd : o.Nodup) (rl : raw.length ≤ 1000)
    (q : ∀ (n' : Int) (x : Str) (j : Nat), x ∈ o → j ≤ o.idxOf x → M.nx [some (.p (.l [.int n'])), some (.d (sL crew)), r2, some (.o (.l ((lift o x j).map .str))), r4, r5, r6, r7, r8, some (.o (.l ((raw ++ [x]).map .str))), some (.d (.int k)), some (.d (.str x))]) :
    ws_l_hidden_b1 ds_l_mixed ds_l_cup ds_l_lifted M E [some (.p (.l [.int n])), some (.d (sL crew)), r2, sd, r4, r5, r6, r7, r8, some (.o (.l (raw.map .str))), some (.d (.int k)), r11] := by
  unfold ws_l_hidden_b1
  rcases hs with rfl | rfl
  all_goals
    walk_at "wp"
    refine use_cup (by omega) (by omega) fun n2 j j0 j1 => ?_
    obtain ⟨x, ex, hx⟩ := atI_any (xs := crew) j0 j1
    walk_at "wp"
    rw [atI_map, ex]
    walk_at "wp"
    have hxo : x ∈ o := pm.mem_iff.mpr hx
    refine ⟨by omega, ⟨n2, o, x, rfl, by rw [pm.length_eq]; omega, hxo, nd, fun n3 j hj => ?_⟩⟩
    walk_at "wp"
    have z := q n3 x j hxo hj
    rw [List.map_append] at z
    exact z
theorem pw30 : CPow 10 30 := by unfold CPow; decide +kernel
theorem pw39 : CPow 10 39 := by unfold CPow; decide +kernel
theorem pw28 : CPow 10 28 := by unfold CPow; decide +kernel
theorem law_l_hidden (α : Dl) (Q : SD → Dl → Prop) (E : XQ) (h : ds_l_hidden α Q E) : ws_l_hidden ds_l_mixed ds_l_cup ds_l_lifted { nx := finD α Q (.d .non), rt := finD α Q } (finE α E) (startD N_l_hidden α) := by
  obtain ⟨n, many, crew, rfl, c1, c2, nd, m0, m1, hq⟩ := h
  unfold ws_l_hidden
  walk_at "wp"
  refine use_mixed (f := .str) (by omega) fun n1 o0 pm0 => ?_
  walk_at "wp"
  refine use_cup (by omega) (by omega) fun n2 j j0 j1 => ?_
  obtain ⟨d, ed, hd⟩ := atI_any (xs := [D.int 1, D.int 2, D.int 4, D.int (((crew.length : Nat) : Int) + 1)]) j0 (by simpa using j1)
  obtain ⟨lively, rfl, l0, l1⟩ : ∃ l : Int, d = .int l ∧ 1 ≤ l ∧ l ≤ 101 := by
    simp only [List.mem_cons, List.not_mem_nil, or_false] at hd
    rcases hd with h | h | h | h
    · exact ⟨_, h, by decide, by decide⟩
    · exact ⟨_, h, by decide, by decide⟩
    · exact ⟨_, h, by decide, by decide⟩
    · exact ⟨_, h, by omega, by omega⟩
  walk_at "wp"
  rw [ed]
  walk_at "wp"
  unfold ws_l_hidden_t1
  walk_at "wp"
  refine ⟨pw30, pw39, use_cup (by omega) (by omega) fun n3 j2 k0 k1 => ?_⟩
  obtain ⟨d2, ed2, hd2⟩ := atI_any (xs := [D.int 0, D.int (0 - 20), D.int (10 ^ Int.toNat 30), D.int (0 - 10 ^ Int.toNat 39)]) k0 (by simpa using k1)
  obtain ⟨mom, rfl, mm0, mm1⟩ : ∃ m : Int, d2 = .int m ∧ -(10 ^ 39) ≤ m ∧ m ≤ 10 ^ 30 := by
    simp only [List.mem_cons, List.not_mem_nil, or_false] at hd2
    rcases hd2 with h | h | h | h <;> exact ⟨_, h, by decide +kernel, by decide +kernel⟩
  walk_at "wp"
  rw [ed2]
  walk_at "wp"
  refine ⟨pw28, use_cup (by omega) (by omega) fun n4 j3 i0 i1 => ?_⟩
  obtain ⟨d3, ed3, hd3⟩ := atI_any (xs := [D.lst [D.int 1, D.int 3, D.int 9], D.lst [D.int 1, D.int 5, D.int (10 ^ Int.toNat 28)]]) i0 (by simpa using i1)
  obtain ⟨step, rfl, sl, s1⟩ : ∃ step : List Int, d3 = iL step ∧ step.length = 3 ∧ ∀ s ∈ step, 1 ≤ s ∧ s ≤ 10 ^ 28 := by
    simp only [List.mem_cons, List.not_mem_nil, or_false] at hd3
    rcases hd3 with h | h
    · exact ⟨[1, 3, 9], h, rfl, by decide +kernel⟩
    · exact ⟨[1, 5, 10 ^ Int.toNat 28], h, rfl, by decide +kernel⟩
  walk_at "wp"
  rw [ed3]
  walk_at "wp"
  clear ed ed2 ed3 hd hd2 hd3 j0 j1 k0 k1 i0 i1
  have nd0 : o0.Nodup := pm0.nodup_iff.mpr nd
  unfold ws_l_hidden_t2
  walk_at "wp"
  refine for_rng many.toNat (fun i δ => ∃ (n' : Int) (hs : List Hd) (o : List Str) (sd : Option SD) (mom : Int) (r8 r9 r10 r11 : Option SD), HOk o0 hs o ∧ hs.length = i ∧ OrdS o sd ∧ (∀ h ∈ hs, -(10 ^ 39) ≤ h.1 ∧ h.1 ≤ mom) ∧ -(10 ^ 39) ≤ mom ∧ mom ≤ 10 ^ 30 + (i : Int) * (10 ^ 28 + 1) ∧
    δ = [some (.p (.l [.int n'])), some (.d (sL crew)), some (.d (.int many)), sd, some (.o (.l (hs.map encH))), some (.d (.int lively)), some (.d (.int mom)), some (.d (iL step)), r8, r9, r10, r11]) (fun Q h => by walk_at "wp"; exact ⟨by omega, h⟩)
    ⟨n4, [], o0, _, mom, none, none, none, none, .nil, rfl, .inl rfl, (fun h z => nomatch z), mm0, by omega, rfl⟩ ?_ ?_
  · rintro i δ' hi ⟨n', hs, o, sd, mom, r8, r9, r10, r11, hk, hl, so, hm, mm0, mm1, rfl⟩
    obtain ⟨pm, ndo, _⟩ := hk.last nd0
    have pmc : o.Perm crew := pm.trans pm0
    unfold ws_l_hidden_b2
    walk_at "wp"
    refine for_rngC (fun δ1 n => ∃ n2 : Int, n ≤ 101 ∧ (i = 0 → n = 0) ∧ δ1 = [some (.p (.l [.int n2])), some (.d (sL crew)), some (.d (.int many)), sd, some (.o (.l (hs.map encH))), some (.d (.int lively)), some (.d (.int mom)), some (.d (iL step)), some (.d (.int i)), some (.o (.l [])), r10, r11])
      (fun n k δ => ∃ (n2 : Int) (raw o' : List Str) (sd' r10 r11 : Option SD), n ≤ 101 ∧ (i = 0 → n = 0) ∧ Lifts raw o o' ∧ raw.length = k ∧ OrdS o' sd' ∧
        δ = [some (.p (.l [.int n2])), some (.d (sL crew)), some (.d (.int many)), sd', some (.o (.l (hs.map encH))), some (.d (.int lively)), some (.d (.int mom)), some (.d (iL step)), some (.d (.int i)), some (.o (.l (raw.map .str))), r10, r11])
      (fun Q h => ?_) ?_ ?_ ?_
    · walk_at "wp"
      refine use_cup (by omega) (by omega) fun n2 j j0 j1 => ?_
      walk_at "wp"
      by_cases c : (0 : Int) < (i : Int)
      · simp only [c, if_true, decide_true]
        refine ⟨cm (by omega) (by decide), ⟨by omega, by omega⟩, ?_⟩
        exact h _ _ ⟨n2, by omega, by omega, rfl⟩
      · simp only [c, if_false, decide_false]
        refine ⟨cm (by omega) (by decide), ⟨by omega, by omega⟩, ?_⟩
        exact h _ _ ⟨n2, by omega, by omega, rfl⟩
    · rintro δ1 n ⟨n2, hn, hn0, rfl⟩
      exact ⟨n2, [], o, sd, r10, r11, hn, hn0, .nil o, rfl, so, rfl⟩
    · rintro n k δ' hk2 ⟨n2, raw, o', sd', r10, r11, hn, hn0, hL, hr, so', rfl⟩
      obtain ⟨q1, q2, _⟩ := hL.perm ndo
      walk_at "wp"
      refine hidden_b1 (raw := raw) c1 c2 so' (q1.trans pmc) q2 (by omega) fun n3 x j hx hj => ?_
      exact ⟨n3, raw ++ [x], _, _, _, _, hn, hn0, .snoc hL hx hj, by rw [List.length_append, hr]; rfl, .inr rfl, rfl⟩
    · rintro n δ' ⟨n2, raw, o', sd', r10, r11, hn, hn0, hL, hr, so', rfl⟩
      walk_at "wp"
      refine use_cup (by omega) (by omega) fun n3 j j0 j1 => ?_
      obtain ⟨s, es, hs'⟩ := atI_any (xs := step) j0 (by rw [sl]; exact j1)
      have ⟨sa, sb⟩ := s1 s hs'
      walk_at "wp"
      rw [atI_map, es]
      walk_at "wp"
      refine use_cup (by omega) (by omega) fun n4 j2 k0 k1 => ?_
      have fin : ∀ r10 r11 : Option SD, ∃ (n' : Int) (hs2 : List Hd) (o : List Str) (sd : Option SD) (mom2 : Int) (r8 r9 r10' r11' : Option SD), HOk o0 hs2 o ∧ hs2.length = i + 1 ∧ OrdS o sd ∧ (∀ h ∈ hs2, -(10 ^ 39) ≤ h.1 ∧ h.1 ≤ mom2) ∧ -(10 ^ 39) ≤ mom2 ∧ mom2 ≤ 10 ^ 30 + ((i + 1 : Nat) : Int) * (10 ^ 28 + 1) ∧
          [some (.p (.l [.int n4])), some (.d (sL crew)), some (.d (.int many)), some (.d (sL o')), some (.o (.l (hs.map encH ++ [encH (mom + 1 + s - j2, o', ssort (TX.onceOf raw))]))), some (.d (.int lively)), some (.d (.int (mom + 1 + s - j2))), some (.d (iL step)), some (.d (.int i)), some (.o (.l (raw.map .str))), r10, r11] =
          [some (.p (.l [.int n'])), some (.d (sL crew)), some (.d (.int many)), sd, some (.o (.l (hs2.map encH))), some (.d (.int lively)), some (.d (.int mom2)), some (.d (iL step)), r8, r9, r10', r11'] := fun r10 r11 =>
        ⟨n4, hs ++ [(mom + 1 + s - j2, o', ssort (TX.onceOf raw))], o', _, mom + 1 + s - j2, _, _, _, _, .snoc hk (fun h hh => by have := hm h hh; omega) hL (fun e => by
          subst e
          have : i = 0 := by rw [← hl]; rfl
          have : n = 0 := hn0 this
          cases raw with
          | nil => rfl
          | cons x r => rw [List.length_cons] at hr; omega), by rw [List.length_append, hl]; rfl, .inl rfl, fun h hh => by
            rcases List.mem_append.mp hh with hh | hh
            · have := hm h hh; omega
            · rw [List.mem_singleton.mp hh]; exact ⟨by show _ ≤ mom + 1 + s - j2; omega, Int.le_refl _⟩, by omega, by omega, by rw [List.map_append]; rfl⟩
      rcases so' with rfl | rfl
      all_goals
        walk_at "wp"
        unfold wSortW
        walk_at "wp"
        refine ⟨raw, rfl, by omega, ?_⟩
        rw [leS_eq]
        walk_at "wq"
        exact ⟨by omega, fin _ _⟩
  · rintro δ' ⟨n', hs, o, sd, mom, r8, r9, r10, r11, hk, hl, so, hm, mm0, mm1, rfl⟩
    unfold ws_l_hidden_t3
    walk_at "wp"
    exact hq n' hs o0 o (by omega) pm0 hk fun h hh => by have := hm h hh; omega
end Sp
namespace Sp
open PySem L2 DL
local macro_rules | `(tactic| walk_at "wp") => `(tactic| simp only [wSeq, wIf, wAnd, wOr, wNot, vAnd, vOr, vNot, wB, wBin, wChain, wRet, wRetN, wNext, wNever, wIfE, eF, fO, fS, wNeg, wC, wVar, oVar, wDrop, wSet, wNil, wCons, wLst, wTup, wCall, wFn, wFnP,  wTwo, wThree, wPar, wPar3, wUn, wgN, wgTup, wgCons, wgNil, wAugI, wIsN, sIsN, nonB, wXf, wRaise, wMet, tyOk, sLen, sToInt, sList, sListD, sTuple, sAdd, sInt, sInt0, sIn, sEq, sEqD, sEqX_nil, sEqX_str, sEqX_int, sEqX_bl, sEqX_non, sEqX_sL, sEqX_iL, sEqX_sT, List.isEmpty_map, flt_all, List.isEmpty_nil, List.isEmpty_cons, sIx, sCut, wCut, wNoP, wSoP, wYes, wBreak, wCont, wApp, wPut, wFld, wMeth, wMake, wSetF, putD, nons, wIxD, wInD, wGet2, wNewD, wPutD, wEqO, wMin2, wMax2, wMaxLen, wRev, keyD,  wiSeq, wiTup, wiStr, wiRng1, wiRng2, wiEnum, outSlot,  view, SD.fz, Cn.fz, D.strip, asB, ownOf, keepKind, argsD, finD, finE, backD, startD, wipeD, unblk,  isi_list_lst, isi_list_tup, isi_list_str, isi_list_int, isi_list_bl, isi_list_non, isi_list_dic, isi_tup_lst, isi_tup_tup, isi_tup_str, isi_tup_int, isi_tup_bl, isi_tup_non, isi_tup_dic, isi_str_lst, isi_str_tup, isi_str_str, isi_str_int, isi_str_bl, isi_str_non, isi_str_dic,  isi_int_lst, isi_int_tup, isi_int_str, isi_int_int, isi_int_bl, isi_int_non, isi_int_dic, isi_bl_lst, isi_bl_tup, isi_bl_str, isi_bl_int, isi_bl_bl, isi_bl_non, isi_bl_dic,  eqOk_str, eqOk_int, eqOk_bl, eqOk_non, eqOk_sL, eqOk_iL, eqOk_nil, eqOk_nilT, deq_str, deq_int, deq_non, deq_sL, deq_iL, deq_sL_nil, deq_iL_nil, dmem_str, dmem_int, some_strs, some_ints, sIndex_str, sIndex_int, sJoin_str, sSum_int, sSorted_str, sSorted_int, keys_I, keys_S, valG_I, valG_S, putG_I, putG_S, encA_len, Option.isSome_map, PySem.sizeLine_eq,  List.getElem?_cons_succ, List.getElem?_cons_zero, List.getElem?_nil, List.set_cons_succ, List.set_cons_zero, List.length_cons, List.length_nil, List.length_map, List.length_append, List.map_cons, List.map_nil, List.cons_append, List.nil_append, List.replicate_succ, List.replicate_zero, List.getD_cons_succ, List.getD_cons_zero, List.lookup_cons, List.lookup_nil, nm_players_crew, nm_moments_crew, nm_tops_crew, nm_above_crew, nm_check_moment_crew, nm_with_look_crew, nm_all_looks_crew, nm_until_crew, nm_renamed_crew, nm_is_pair_crew, nm_rows_crew, nm_least_at_crew, nm_most_at_crew, nm_seen_crew, nm_folk_crew, nm_shown_crew, nm_notes_crew, nm_count_crew, nm_total_crew, nm_look_crew, nm_undo_crew, nm_copy_crew, nm_sight_crew, nm_players_seen, nm_moments_seen, nm_tops_seen, nm_above_seen, nm_check_moment_seen, nm_with_look_seen, nm_all_looks_seen, nm_until_seen, nm_renamed_seen, nm_is_pair_seen, nm_rows_seen, nm_least_at_seen, nm_most_at_seen, nm_crew_seen, nm_folk_seen, nm_shown_seen, nm_notes_seen, nm_count_seen, nm_total_seen, nm_look_seen, nm_undo_seen, nm_copy_seen, nm_sight_seen, nm_players_folk, nm_moments_folk, nm_tops_folk, nm_above_folk, nm_check_moment_folk, nm_with_look_folk, nm_all_looks_folk, nm_until_folk, nm_renamed_folk, nm_is_pair_folk, nm_rows_folk, nm_least_at_folk, nm_most_at_folk, nm_crew_folk, nm_seen_folk, nm_shown_folk, nm_notes_folk, nm_count_folk, nm_total_folk, nm_look_folk, nm_undo_folk, nm_copy_folk, nm_sight_folk, nm_players_shown, nm_moments_shown, nm_tops_shown, nm_above_shown, nm_check_moment_shown, nm_with_look_shown, nm_all_looks_shown, nm_until_shown, nm_renamed_shown, nm_is_pair_shown, nm_rows_shown, nm_least_at_shown, nm_most_at_shown, nm_crew_shown, nm_seen_shown, nm_folk_shown, nm_notes_shown, nm_count_shown, nm_total_shown, nm_look_shown, nm_undo_shown, nm_copy_shown, nm_sight_shown, nm_players_notes, nm_moments_notes, nm_tops_notes, nm_above_notes, nm_check_moment_notes, nm_with_look_notes, nm_all_looks_notes, nm_until_notes, nm_renamed_notes, nm_is_pair_notes, nm_rows_notes, nm_least_at_notes, nm_most_at_notes, nm_crew_notes, nm_seen_notes, nm_folk_notes, nm_shown_notes, nm_count_notes, nm_total_notes, nm_look_notes, nm_undo_notes, nm_copy_notes, nm_sight_notes,  Nat.reduceAdd, Nat.reduceSub, Nat.reduceLT, Nat.reduceLeDiff, Nat.reduceMul, Nat.reduceEqDiff, Nat.zero_add, Nat.add_zero, Nat.lt_add_left_iff_pos, Nat.le_add_left, Nat.zero_le, Nat.zero_lt_succ, Nat.succ_lt_succ_iff,  Cn.l.injEq, Cn.k.injEq, true_and, and_true, exists_eq', exists_eq_left', Option.some.injEq, Option.map_some, Option.map_none, Option.bind_some, Option.isSome_some, Option.isSome_none,  decide_eq_true_eq, Bool.false_eq_true, Bool.not_eq_true', Bool.not_true, Bool.not_false, Bool.not_not, Bool.true_xor, Bool.false_xor, decide_eq_false_iff_not, if_true, if_false, ite_true, ite_false, reduceIte, reduceCtorEq, decide_true, decide_false, decide_not, and_self, eq_self, ne_eq, not_true, not_false_eq_true, exists_const, and_imp, beq_self_eq_true])
local macro_rules | `(tactic| walk_at "wq") => `(tactic| try walk_at "wp")
local macro_rules | `(tactic| walk_at "w1") => `(tactic| simp only [wSeq_k, wIf, wAnd, wOr, wNot, vAnd, vOr, vNot, wB, wBin, wChain, wRet, wRetN, wNext, wNever, wIfE, eF, fO, fS, wNeg, wC, wVar, oVar, wDrop, wSet, wNil, wCons, wLst, wTup, wCall, wFn, wFnP,  wTwo, wThree, wPar, wPar3, wUn, wgN, wgTup, wgCons, wgNil, wAugI, wIsN, sIsN, nonB, wXf, wRaise, wMet, tyOk, sLen, sToInt, sList, sListD, sTuple, sAdd, sInt, sInt0, sIn, sEq, sEqD, sEqX_nil, sEqX_str, sEqX_int, sEqX_bl, sEqX_non, sEqX_sL, sEqX_iL, sEqX_sT, List.isEmpty_map, flt_all, List.isEmpty_nil, List.isEmpty_cons, sIx, sCut, wCut, wNoP, wSoP, wYes, wBreak, wCont, wApp, wPut, wFld, wMeth, wMake, wSetF, putD, nons, wIxD, wInD, wGet2, wNewD, wPutD, wEqO, wMin2, wMax2, wMaxLen, wRev, keyD,  wiSeq, wiTup, wiStr, wiRng1, wiRng2, wiEnum, outSlot,  view, SD.fz, Cn.fz, D.strip, asB, ownOf, keepKind, argsD, finD, finE, backD, startD, wipeD, unblk,  isi_list_lst, isi_list_tup, isi_list_str, isi_list_int, isi_list_bl, isi_list_non, isi_list_dic, isi_tup_lst, isi_tup_tup, isi_tup_str, isi_tup_int, isi_tup_bl, isi_tup_non, isi_tup_dic, isi_str_lst, isi_str_tup, isi_str_str, isi_str_int, isi_str_bl, isi_str_non, isi_str_dic,  isi_int_lst, isi_int_tup, isi_int_str, isi_int_int, isi_int_bl, isi_int_non, isi_int_dic, isi_bl_lst, isi_bl_tup, isi_bl_str, isi_bl_int, isi_bl_bl, isi_bl_non, isi_bl_dic,  eqOk_str, eqOk_int, eqOk_bl, eqOk_non, eqOk_sL, eqOk_iL, eqOk_nil, eqOk_nilT, deq_str, deq_int, deq_non, deq_sL, deq_iL, deq_sL_nil, deq_iL_nil, dmem_str, dmem_int, some_strs, some_ints, sIndex_str, sIndex_int, sJoin_str, sSum_int, sSorted_str, sSorted_int, keys_I, keys_S, valG_I, valG_S, putG_I, putG_S, encA_len, Option.isSome_map, PySem.sizeLine_eq,  List.getElem?_cons_succ, List.getElem?_cons_zero, List.getElem?_nil, List.set_cons_succ, List.set_cons_zero, List.length_cons, List.length_nil, List.length_map, List.length_append, List.map_cons, List.map_nil, List.cons_append, List.nil_append, List.replicate_succ, List.replicate_zero, List.getD_cons_succ, List.getD_cons_zero, List.lookup_cons, List.lookup_nil, nm_players_crew, nm_moments_crew, nm_tops_crew, nm_above_crew, nm_check_moment_crew, nm_with_look_crew, nm_all_looks_crew, nm_until_crew, nm_renamed_crew, nm_is_pair_crew, nm_rows_crew, nm_least_at_crew, nm_most_at_crew, nm_seen_crew, nm_folk_crew, nm_shown_crew, nm_notes_crew, nm_count_crew, nm_total_crew, nm_look_crew, nm_undo_crew, nm_copy_crew, nm_sight_crew, nm_players_seen, nm_moments_seen, nm_tops_seen, nm_above_seen, nm_check_moment_seen, nm_with_look_seen, nm_all_looks_seen, nm_until_seen, nm_renamed_seen, nm_is_pair_seen, nm_rows_seen, nm_least_at_seen, nm_most_at_seen, nm_crew_seen, nm_folk_seen, nm_shown_seen, nm_notes_seen, nm_count_seen, nm_total_seen, nm_look_seen, nm_undo_seen, nm_copy_seen, nm_sight_seen, nm_players_folk, nm_moments_folk, nm_tops_folk, nm_above_folk, nm_check_moment_folk, nm_with_look_folk, nm_all_looks_folk, nm_until_folk, nm_renamed_folk, nm_is_pair_folk, nm_rows_folk, nm_least_at_folk, nm_most_at_folk, nm_crew_folk, nm_seen_folk, nm_shown_folk, nm_notes_folk, nm_count_folk, nm_total_folk, nm_look_folk, nm_undo_folk, nm_copy_folk, nm_sight_folk, nm_players_shown, nm_moments_shown, nm_tops_shown, nm_above_shown, nm_check_moment_shown, nm_with_look_shown, nm_all_looks_shown, nm_until_shown, nm_renamed_shown, nm_is_pair_shown, nm_rows_shown, nm_least_at_shown, nm_most_at_shown, nm_crew_shown, nm_seen_shown, nm_folk_shown, nm_notes_shown, nm_count_shown, nm_total_shown, nm_look_shown, nm_undo_shown, nm_copy_shown, nm_sight_shown, nm_players_notes, nm_moments_notes, nm_tops_notes, nm_above_notes, nm_check_moment_notes, nm_with_look_notes, nm_all_looks_notes, nm_until_notes, nm_renamed_notes, nm_is_pair_notes, nm_rows_notes, nm_least_at_notes, nm_most_at_notes, nm_crew_notes, nm_seen_notes, nm_folk_notes, nm_shown_notes, nm_count_notes, nm_total_notes, nm_look_notes, nm_undo_notes, nm_copy_notes, nm_sight_notes,  Nat.reduceAdd, Nat.reduceSub, Nat.reduceLT, Nat.reduceLeDiff, Nat.reduceMul, Nat.reduceEqDiff, Nat.zero_add, Nat.add_zero, Nat.lt_add_left_iff_pos, Nat.le_add_left, Nat.zero_le, Nat.zero_lt_succ, Nat.succ_lt_succ_iff,  Cn.l.injEq, Cn.k.injEq, true_and, and_true, exists_eq', exists_eq_left', Option.some.injEq, Option.map_some, Option.map_none, Option.bind_some, Option.isSome_some, Option.isSome_none,  decide_eq_true_eq, Bool.false_eq_true, Bool.not_eq_true', Bool.not_true, Bool.not_false, Bool.not_not, Bool.true_xor, Bool.false_xor, decide_eq_false_iff_not, if_true, if_false, ite_true, ite_false, reduceIte, reduceCtorEq, decide_true, decide_false, decide_not, and_self, eq_self, ne_eq, not_true, not_false_eq_true, exists_const, and_imp, beq_self_eq_true])
local macro_rules | `(tactic| walk_at "ws") => `(tactic| repeat (first | refine kont_intro ?_ | walk_at "w1"))
abbrev Lk := Int × List Str
abbrev encL (p : Lk) : D := .tup [.int p.1, sL p.2]
structure LooksOf (hs : List Hd) (L : List Lk) : Prop where
  from_ : ∀ p ∈ L, ∃ h ∈ hs, p.1 = h.1 ∧ ∃ k, p.2 = h.2.1.take k
  each : ∀ h ∈ hs, ∃ p ∈ L, p.1 = h.1
  len : L.length ≤ 2 * hs.length
theorem LooksOf.perm {hs : List Hd} {L L' : List Lk} (h : LooksOf hs L) (p : L'.Perm L) : LooksOf hs L' :=
  ⟨fun q hq => h.from_ q (p.mem_iff.mp hq), fun q hq => let ⟨r, h1, h2⟩ := h.each q hq; ⟨r, p.mem_iff.mpr h1, h2⟩, by rw [p.length_eq]; exact h.len⟩
theorem LooksOf.nil : LooksOf [] [] := ⟨(fun _ h => nomatch h), (fun _ h => nomatch h), Nat.le_refl _⟩
theorem LooksOf.one {hs : List Hd} {L : List Lk} (h : LooksOf hs L) (m : Int) (o ns : List Str) (k : Nat) : LooksOf (hs ++ [(m, o, ns)]) (L ++ [(m, o.take k)]) := by
  refine ⟨fun q hq => ?_, fun q hq => ?_, by rw [List.length_append, List.length_append, List.length_singleton, List.length_singleton]; have := h.len; omega⟩
  · rcases List.mem_append.mp hq with hq | hq
    · obtain ⟨r, h1, h2⟩ := h.from_ q hq
      exact ⟨r, List.mem_append_left _ h1, h2⟩
    · rw [List.mem_singleton.mp hq]
      exact ⟨(m, o, ns), List.mem_append_right _ (List.mem_singleton.mpr rfl), rfl, k, rfl⟩
  · rcases List.mem_append.mp hq with hq | hq
    · obtain ⟨r, h1, h2⟩ := h.each q hq
      exact ⟨r, List.mem_append_left _ h1, h2⟩
    · rw [List.mem_singleton.mp hq]
      exact ⟨(m, o.take k), List.mem_append_right _ (List.mem_singleton.mpr rfl), rfl⟩
theorem LooksOf.two {hs : List Hd} {L : List Lk} (h : LooksOf hs L) (m : Int) (o ns : List Str) (k l : Nat) : LooksOf (hs ++ [(m, o, ns)]) (L ++ [(m, o.take k), (m, o.take l)]) := by
  have h1 := h.one m o ns k
  refine ⟨fun q hq => ?_, fun q hq => ?_, by rw [List.length_append, List.length_append, List.length_singleton]; have := h.len; show L.length + 2 ≤ _; omega⟩
  · rw [show L ++ [(m, o.take k), (m, o.take l)] = (L ++ [(m, o.take k)]) ++ [(m, o.take l)] from by rw [List.append_assoc]; rfl] at hq
    rcases List.mem_append.mp hq with hq | hq
    · exact h1.from_ q hq
    · rw [List.mem_singleton.mp hq]
      exact ⟨(m, o, ns), List.mem_append_right _ (List.mem_singleton.mpr rfl), rfl, l, rfl⟩
  · obtain ⟨p, hp, e⟩ := h1.each q hq
    refine ⟨p, ?_, e⟩
    rw [show L ++ [(m, o.take k), (m, o.take l)] = (L ++ [(m, o.take k)]) ++ [(m, o.take l)] from by rw [List.append_assoc]; rfl]
    exact List.mem_append_left _ hp
def ds_l_looks : DSp := fun α Q _ => ∃ (n : Int) (hs : List Hd), α = [some (.p (.l [.int n])), some (.d (.lst (hs.map encH)))] ∧ hs.length ≤ 1000 ∧ (∀ h ∈ hs, h.2.1.length ≤ 100) ∧
  ∀ (n' : Int) (L : List Lk), LooksOf hs L → Q (.d (.lst (L.map encL))) [some (.p (.l [.int n'])), some (.d (.lst (hs.map encH)))]
theorem len_l_looks (α : Dl) (Q : SD → Dl → Prop) (E : XQ) (h : ds_l_looks α Q E) : α.length = 2 ∧ ∀ (i : Nat) (c : Cn), α[i]? ≠ some (some (.o c)) := by
  obtain ⟨n, m, rfl, _⟩ := h
  exact lenOf rfl rfl
theorem law_l_looks (α : Dl) (Q : SD → Dl → Prop) (E : XQ) (h : ds_l_looks α Q E) : ws_l_looks ds_l_cup ds_l_mixed { nx := finD α Q (.d .non), rt := finD α Q } (finE α E) (startD N_l_looks α) := by
  obtain ⟨n, hs, rfl, h1, h2, hq⟩ := h
  unfold ws_l_looks ws_l_looks_t1
  walk_at "wp"
  refine for_map hs encH (fun pre δ => ∃ (n' : Int) (L : List Lk) (r3 r4 r5 r6 : Option SD), LooksOf pre L ∧ δ = [some (.p (.l [.int n'])), some (.d (.lst (hs.map encH))), some (.o (.l (L.map encL))), r3, r4, r5, r6]) (fun Q h => by walk_at "wp"; exact h) ⟨n, [], none, none, none, none, .nil, rfl⟩ ?_ ?_
  · rintro pre ⟨m, o, ns⟩ post δ' ex ⟨n', L, r3, r4, r5, r6, hL, rfl⟩
    have ol : o.length ≤ 100 := h2 (m, o, ns) (by rw [ex]; simp)
    have pl : pre.length ≤ 1000 := by rw [ex, List.length_append] at h1; omega
    have := hL.len
    unfold ws_l_looks_b1
    walk_at "wp"
    refine use_cup (by omega) (by omega) fun n1 j1 a0 a1 => ?_
    walk_at "wp"
    refine use_cup (by omega) (by omega) fun n2 j2 b0 b1 => ?_
    walk_at "wp"
    refine use_cup (by omega) (by omega) fun n3 j3 c0 c1 => ?_
    obtain ⟨d, ed, hd⟩ := atI_any (xs := [D.int j1, D.int j2]) c0 (by simpa using c1)
    obtain ⟨size, rfl, s0⟩ : ∃ s : Int, d = .int s ∧ 0 ≤ s := by
      simp only [List.mem_cons, List.not_mem_nil, or_false] at hd
      rcases hd with h | h
      · exact ⟨_, h, a0⟩
      · exact ⟨_, h, b0⟩
    walk_at "wp"
    rw [ed]
    walk_at "wp"
    refine ⟨by omega, use_cup (by omega) (by omega) fun n4 j4 e0 e1 => ?_⟩
    walk_at "wp"
    rw [cut_map, cut_to _ s0]
    by_cases c : j4 = 0
    · simp only [c, if_true]
      refine use_cup (by omega) (by omega) fun n5 j5 f0 f1 => ?_
      walk_at "wp"
      rw [cut_map, cut_to _ f0]
      exact ⟨by omega, n5, L ++ [(m, o.take size.toNat), (m, o.take j5.toNat)], _, _, _, _, hL.two m o ns size.toNat j5.toNat, by rw [List.map_append, List.append_assoc]; rfl⟩
    · simp only [c, if_false]
      exact ⟨n4, L ++ [(m, o.take size.toNat)], _, _, _, _, hL.one m o ns size.toNat, by rw [List.map_append]; rfl⟩
  · rintro δ' ⟨n', L, r3, r4, r5, r6, hL, rfl⟩
    have := hL.len
    unfold ws_l_looks_t2
    walk_at "wp"
    refine use_mixed (f := encL) (by omega) fun n2 zs pm => ?_
    walk_at "wp"
    exact hq n2 zs (hL.perm pm)
def seenStepL (f : List Lk) (p : Lk) : List Lk := match lookA f p.1 with
  | none => putA f p.1 p.2
  | some t => if t.length < p.2.length then putA f p.1 p.2 else f
def seenL (L : List Lk) : List Lk := L.foldl seenStepL []
def sightL (f : List Lk) : List Lk := (isort (f.map (·.1))).map fun m => (m, (lookA f m).getD [])
theorem seenStepL_len (f : List Lk) (p : Lk) : (seenStepL f p).length ≤ f.length + 1 := by
  unfold seenStepL
  split
  · exact put_len _ _ _
  · split
    · exact put_len _ _ _
    · exact Nat.le_succ _
theorem seenL_len (L : List Lk) : (seenL L).length ≤ L.length := by
  have h : ∀ (L : List Lk) (f : List Lk), (L.foldl seenStepL f).length ≤ f.length + L.length := by
    intro L
    induction L with
    | nil => intro f; simp
    | cons p L ih =>
      intro f
      have h1 := ih (seenStepL f p)
      have h2 := seenStepL_len f p
      rw [List.foldl_cons, List.length_cons]
      omega
  have := h L []
  simpa [seenL] using this
theorem seenL_snoc (L : List Lk) (p : Lk) : seenL (L ++ [p]) = seenStepL (seenL L) p := by
  unfold seenL
  rw [List.foldl_append]
  rfl
def ds_l_seen : DSp := fun α Q _ => ∃ L : List Lk, α = [some (.d (.lst (L.map encL)))] ∧ L.length < 4000 ∧ Q (.o (.l ((sightL (seenL L)).map encL))) α
theorem len_l_seen (α : Dl) (Q : SD → Dl → Prop) (E : XQ) (h : ds_l_seen α Q E) : α.length = 1 ∧ ∀ (i : Nat) (c : Cn), α[i]? ≠ some (some (.o c)) := by
  obtain ⟨n, rfl, _⟩ := h
  exact lenOf rfl rfl
theorem law_l_seen (α : Dl) (Q : SD → Dl → Prop) (E : XQ) (h : ds_l_seen α Q E) : ws_l_seen { nx := finD α Q (.d .non), rt := finD α Q } (finE α E) (startD N_l_seen α) := by
  obtain ⟨L, rfl, few, hq⟩ := h
  unfold ws_l_seen ws_l_seen_t1
  walk_at "wp"
  refine for_map L encL (fun pre δ => ∃ r2 r3 : Option SD, Jn r2 ∧ δ = [some (.d (.lst (L.map encL))), some (.o (.k (encA Sum.inl sL (seenL pre)))), r2, r3]) (fun Q h => by walk_at "wp"; exact h) ⟨none, none, .no, rfl⟩ ?_ ?_
  · rintro pre ⟨m, t⟩ post δ' ex ⟨r2, r3, _, rfl⟩
    have pl : pre.length < 4000 := by rw [ex, List.length_append] at few; omega
    have fl := seenL_len pre
    unfold ws_l_seen_b1
    walk_at "wp"
    rw [seenL_snoc]
    unfold seenStepL
    cases el : lookA (seenL pre) m with
    | none =>
      walk_at "wq"
      exact ⟨by omega, _, _, .dt _, rfl⟩
    | some s =>
      walk_at "wq"
      by_cases c : s.length < t.length
      · rw [if_pos (by omega), if_pos c]
        exact ⟨by omega, _, _, .dt _, rfl⟩
      · rw [if_neg (by omega), if_neg c]
        exact ⟨_, _, .dt _, rfl⟩
  · rintro δ' ⟨r2, r3, j2, rfl⟩
    have fl := seenL_len L
    unfold ws_l_seen_t2
    walk_at "wp"
    refine lc_map (isort ((seenL L).map (·.1))) .int (fun m => (m, (lookA (seenL L) m).getD [])) encL (fun Q h => by walk_at "wp"; exact h) (by rw [isort_len, List.length_map]; omega) (okW_one rfl j2) (fun m hm R S hR => ?_) ?_
    · walk_at "wp"
      have hk : (lookA (seenL L) m).isSome = true := by rw [lookA_isSome]; exact decide_eq_true (isort_mem.mp hm)
      cases el : lookA (seenL L) m with
      | none => rw [el] at hk; cases hk
      | some t =>
        rw [el] at hR
        exact ⟨sL t, rfl, hR⟩
    · walk_at "wp"
      exact hq
end Sp
namespace Sp
open PySem L2 DL
local macro_rules | `(tactic| walk_at "wp") => `(tactic| simp only [wSeq, wIf, wAnd, wOr, wNot, vAnd, vOr, vNot, wB, wBin, wChain, wRet, wRetN, wNext, wNever, wIfE, eF, fO, fS, wNeg, wC, wVar, oVar, wDrop, wSet, wNil, wCons, wLst, wTup, wCall, wFn, wFnP,  wTwo, wThree, wPar, wPar3, wUn, wgN, wgTup, wgCons, wgNil, wAugI, wIsN, sIsN, nonB, wXf, wRaise, wMet, tyOk, sLen, sToInt, sList, sListD, sTuple, sAdd, sInt, sInt0, sIn, sEq, sEqD, sEqX_nil, sEqX_str, sEqX_int, sEqX_bl, sEqX_non, sEqX_sL, sEqX_iL, sEqX_sT, List.isEmpty_map, flt_all, List.isEmpty_nil, List.isEmpty_cons, sIx, sCut, wCut, wNoP, wSoP, wYes, wBreak, wCont, wApp, wPut, wFld, wMeth, wMake, wSetF, putD, nons, wIxD, wInD, wGet2, wNewD, wPutD, wEqO, wMin2, wMax2, wMaxLen, wRev, keyD,  wiSeq, wiTup, wiStr, wiRng1, wiRng2, wiEnum, outSlot,  view, SD.fz, Cn.fz, D.strip, asB, ownOf, keepKind, argsD, finD, finE, backD, startD, wipeD, unblk,  isi_list_lst, isi_list_tup, isi_list_str, isi_list_int, isi_list_bl, isi_list_non, isi_list_dic, isi_tup_lst, isi_tup_tup, isi_tup_str, isi_tup_int, isi_tup_bl, isi_tup_non, isi_tup_dic, isi_str_lst, isi_str_tup, isi_str_str, isi_str_int, isi_str_bl, isi_str_non, isi_str_dic,  isi_int_lst, isi_int_tup, isi_int_str, isi_int_int, isi_int_bl, isi_int_non, isi_int_dic, isi_bl_lst, isi_bl_tup, isi_bl_str, isi_bl_int, isi_bl_bl, isi_bl_non, isi_bl_dic,  eqOk_str, eqOk_int, eqOk_bl, eqOk_non, eqOk_sL, eqOk_iL, eqOk_nil, eqOk_nilT, deq_str, deq_int, deq_non, deq_sL, deq_iL, deq_sL_nil, deq_iL_nil, dmem_str, dmem_int, some_strs, some_ints, sIndex_str, sIndex_int, sJoin_str, sSum_int, sSorted_str, sSorted_int, keys_I, keys_S, valG_I, valG_S, putG_I, putG_S, encA_len, Option.isSome_map, PySem.sizeLine_eq,  List.getElem?_cons_succ, List.getElem?_cons_zero, List.getElem?_nil, List.set_cons_succ, List.set_cons_zero, List.length_cons, List.length_nil, List.length_map, List.length_append, List.map_cons, List.map_nil, List.cons_append, List.nil_append, List.replicate_succ, List.replicate_zero, List.getD_cons_succ, List.getD_cons_zero, List.lookup_cons, List.lookup_nil, nm_players_crew, nm_moments_crew, nm_tops_crew, nm_above_crew, nm_check_moment_crew, nm_with_look_crew, nm_all_looks_crew, nm_until_crew, nm_renamed_crew, nm_is_pair_crew, nm_rows_crew, nm_least_at_crew, nm_most_at_crew, nm_seen_crew, nm_folk_crew, nm_shown_crew, nm_notes_crew, nm_count_crew, nm_total_crew, nm_look_crew, nm_undo_crew, nm_copy_crew, nm_sight_crew, nm_players_seen, nm_moments_seen, nm_tops_seen, nm_above_seen, nm_check_moment_seen, nm_with_look_seen, nm_all_looks_seen, nm_until_seen, nm_renamed_seen, nm_is_pair_seen, nm_rows_seen, nm_least_at_seen, nm_most_at_seen, nm_crew_seen, nm_folk_seen, nm_shown_seen, nm_notes_seen, nm_count_seen, nm_total_seen, nm_look_seen, nm_undo_seen, nm_copy_seen, nm_sight_seen, nm_players_folk, nm_moments_folk, nm_tops_folk, nm_above_folk, nm_check_moment_folk, nm_with_look_folk, nm_all_looks_folk, nm_until_folk, nm_renamed_folk, nm_is_pair_folk, nm_rows_folk, nm_least_at_folk, nm_most_at_folk, nm_crew_folk, nm_seen_folk, nm_shown_folk, nm_notes_folk, nm_count_folk, nm_total_folk, nm_look_folk, nm_undo_folk, nm_copy_folk, nm_sight_folk, nm_players_shown, nm_moments_shown, nm_tops_shown, nm_above_shown, nm_check_moment_shown, nm_with_look_shown, nm_all_looks_shown, nm_until_shown, nm_renamed_shown, nm_is_pair_shown, nm_rows_shown, nm_least_at_shown, nm_most_at_shown, nm_crew_shown, nm_seen_shown, nm_folk_shown, nm_notes_shown, nm_count_shown, nm_total_shown, nm_look_shown, nm_undo_shown, nm_copy_shown, nm_sight_shown, nm_players_notes, nm_moments_notes, nm_tops_notes, nm_above_notes, nm_check_moment_notes, nm_with_look_notes, nm_all_looks_notes, nm_until_notes, nm_renamed_notes, nm_is_pair_notes, nm_rows_notes, nm_least_at_notes, nm_most_at_notes, nm_crew_notes, nm_seen_notes, nm_folk_notes, nm_shown_notes, nm_count_notes, nm_total_notes, nm_look_notes, nm_undo_notes, nm_copy_notes, nm_sight_notes,  Nat.reduceAdd, Nat.reduceSub, Nat.reduceLT, Nat.reduceLeDiff, Nat.reduceMul, Nat.reduceEqDiff, Nat.zero_add, Nat.add_zero, Nat.lt_add_left_iff_pos, Nat.le_add_left, Nat.zero_le, Nat.zero_lt_succ, Nat.succ_lt_succ_iff,  Cn.l.injEq, Cn.k.injEq, true_and, and_true, exists_eq', exists_eq_left', Option.some.injEq, Option.map_some, Option.map_none, Option.bind_some, Option.isSome_some, Option.isSome_none,  decide_eq_true_eq, Bool.false_eq_true, Bool.not_eq_true', Bool.not_true, Bool.not_false, Bool.not_not, Bool.true_xor, Bool.false_xor, decide_eq_false_iff_not, if_true, if_false, ite_true, ite_false, reduceIte, reduceCtorEq, decide_true, decide_false, decide_not, and_self, eq_self, ne_eq, not_true, not_false_eq_true, exists_const, and_imp, beq_self_eq_true])
local macro_rules | `(tactic| walk_at "wq") => `(tactic| try walk_at "wp")
local macro_rules | `(tactic| walk_at "w1") => `(tactic| simp only [wSeq_k, wIf, wAnd, wOr, wNot, vAnd, vOr, vNot, wB, wBin, wChain, wRet, wRetN, wNext, wNever, wIfE, eF, fO, fS, wNeg, wC, wVar, oVar, wDrop, wSet, wNil, wCons, wLst, wTup, wCall, wFn, wFnP,  wTwo, wThree, wPar, wPar3, wUn, wgN, wgTup, wgCons, wgNil, wAugI, wIsN, sIsN, nonB, wXf, wRaise, wMet, tyOk, sLen, sToInt, sList, sListD, sTuple, sAdd, sInt, sInt0, sIn, sEq, sEqD, sEqX_nil, sEqX_str, sEqX_int, sEqX_bl, sEqX_non, sEqX_sL, sEqX_iL, sEqX_sT, List.isEmpty_map, flt_all, List.isEmpty_nil, List.isEmpty_cons, sIx, sCut, wCut, wNoP, wSoP, wYes, wBreak, wCont, wApp, wPut, wFld, wMeth, wMake, wSetF, putD, nons, wIxD, wInD, wGet2, wNewD, wPutD, wEqO, wMin2, wMax2, wMaxLen, wRev, keyD,  wiSeq, wiTup, wiStr, wiRng1, wiRng2, wiEnum, outSlot,  view, SD.fz, Cn.fz, D.strip, asB, ownOf, keepKind, argsD, finD, finE, backD, startD, wipeD, unblk,  isi_list_lst, isi_list_tup, isi_list_str, isi_list_int, isi_list_bl, isi_list_non, isi_list_dic, isi_tup_lst, isi_tup_tup, isi_tup_str, isi_tup_int, isi_tup_bl, isi_tup_non, isi_tup_dic, isi_str_lst, isi_str_tup, isi_str_str, isi_str_int, isi_str_bl, isi_str_non, isi_str_dic,  isi_int_lst, isi_int_tup, isi_int_str, isi_int_int, isi_int_bl, isi_int_non, isi_int_dic, isi_bl_lst, isi_bl_tup, isi_bl_str, isi_bl_int, isi_bl_bl, isi_bl_non, isi_bl_dic,  eqOk_str, eqOk_int, eqOk_bl, eqOk_non, eqOk_sL, eqOk_iL, eqOk_nil, eqOk_nilT, deq_str, deq_int, deq_non, deq_sL, deq_iL, deq_sL_nil, deq_iL_nil, dmem_str, dmem_int, some_strs, some_ints, sIndex_str, sIndex_int, sJoin_str, sSum_int, sSorted_str, sSorted_int, keys_I, keys_S, valG_I, valG_S, putG_I, putG_S, encA_len, Option.isSome_map, PySem.sizeLine_eq,  List.getElem?_cons_succ, List.getElem?_cons_zero, List.getElem?_nil, List.set_cons_succ, List.set_cons_zero, List.length_cons, List.length_nil, List.length_map, List.length_append, List.map_cons, List.map_nil, List.cons_append, List.nil_append, List.replicate_succ, List.replicate_zero, List.getD_cons_succ, List.getD_cons_zero, List.lookup_cons, List.lookup_nil, nm_players_crew, nm_moments_crew, nm_tops_crew, nm_above_crew, nm_check_moment_crew, nm_with_look_crew, nm_all_looks_crew, nm_until_crew, nm_renamed_crew, nm_is_pair_crew, nm_rows_crew, nm_least_at_crew, nm_most_at_crew, nm_seen_crew, nm_folk_crew, nm_shown_crew, nm_notes_crew, nm_count_crew, nm_total_crew, nm_look_crew, nm_undo_crew, nm_copy_crew, nm_sight_crew, nm_players_seen, nm_moments_seen, nm_tops_seen, nm_above_seen, nm_check_moment_seen, nm_with_look_seen, nm_all_looks_seen, nm_until_seen, nm_renamed_seen, nm_is_pair_seen, nm_rows_seen, nm_least_at_seen, nm_most_at_seen, nm_crew_seen, nm_folk_seen, nm_shown_seen, nm_notes_seen, nm_count_seen, nm_total_seen, nm_look_seen, nm_undo_seen, nm_copy_seen, nm_sight_seen, nm_players_folk, nm_moments_folk, nm_tops_folk, nm_above_folk, nm_check_moment_folk, nm_with_look_folk, nm_all_looks_folk, nm_until_folk, nm_renamed_folk, nm_is_pair_folk, nm_rows_folk, nm_least_at_folk, nm_most_at_folk, nm_crew_folk, nm_seen_folk, nm_shown_folk, nm_notes_folk, nm_count_folk, nm_total_folk, nm_look_folk, nm_undo_folk, nm_copy_folk, nm_sight_folk, nm_players_shown, nm_moments_shown, nm_tops_shown, nm_above_shown, nm_check_moment_shown, nm_with_look_shown, nm_all_looks_shown, nm_until_shown, nm_renamed_shown, nm_is_pair_shown, nm_rows_shown, nm_least_at_shown, nm_most_at_shown, nm_crew_shown, nm_seen_shown, nm_folk_shown, nm_notes_shown, nm_count_shown, nm_total_shown, nm_look_shown, nm_undo_shown, nm_copy_shown, nm_sight_shown, nm_players_notes, nm_moments_notes, nm_tops_notes, nm_above_notes, nm_check_moment_notes, nm_with_look_notes, nm_all_looks_notes, nm_until_notes, nm_renamed_notes, nm_is_pair_notes, nm_rows_notes, nm_least_at_notes, nm_most_at_notes, nm_crew_notes, nm_seen_notes, nm_folk_notes, nm_shown_notes, nm_count_notes, nm_total_notes, nm_look_notes, nm_undo_notes, nm_copy_notes, nm_sight_notes,  Nat.reduceAdd, Nat.reduceSub, Nat.reduceLT, Nat.reduceLeDiff, Nat.reduceMul, Nat.reduceEqDiff, Nat.zero_add, Nat.add_zero, Nat.lt_add_left_iff_pos, Nat.le_add_left, Nat.zero_le, Nat.zero_lt_succ, Nat.succ_lt_succ_iff,  Cn.l.injEq, Cn.k.injEq, true_and, and_true, exists_eq', exists_eq_left', Option.some.injEq, Option.map_some, Option.map_none, Option.bind_some, Option.isSome_some, Option.isSome_none,  decide_eq_true_eq, Bool.false_eq_true, Bool.not_eq_true', Bool.not_true, Bool.not_false, Bool.not_not, Bool.true_xor, Bool.false_xor, decide_eq_false_iff_not, if_true, if_false, ite_true, ite_false, reduceIte, reduceCtorEq, decide_true, decide_false, decide_not, and_self, eq_self, ne_eq, not_true, not_false_eq_true, exists_const, and_imp, beq_self_eq_true])
local macro_rules | `(tactic| walk_at "ws") => `(tactic| repeat (first | refine kont_intro ?_ | walk_at "w1"))
theorem geqN_ok {n : Nat} {x y : D} (h1 : eqOk x = true) (h2 : eqOk y = true) : geqN n x y = some (deq x y) := by
  have e : plainEq x y = some (deq x y) := by unfold plainEq; rw [h1, h2]; rfl
  cases n with
  | zero => exact e
  | succ n => unfold geqN; rw [e]
theorem geqN_sL (n : Nat) (a b : List Str) : geqN n (sL a) (sL b) = some (decide (a = b)) := by
  rw [geqN_ok (eqOk_sL a) (eqOk_sL b), deq_sL]
def eqSeen (f g : List Lk) : Bool := decide (f.length = g.length) && f.all fun p => decide (lookA g p.1 = some p.2)
theorem dicO_seen (n : Nat) (g : List Lk) : ∀ f : List Lk, dicO (geqN n) (encA Sum.inl sL g) (encA Sum.inl sL f) = some (f.all fun p => decide (lookA g p.1 = some p.2))
  | [] => rfl
  | (m, t) :: r => by
    show dicO (geqN n) (encA Sum.inl sL g) ((Sum.inl m, sL t) :: encA Sum.inl sL r) = _
    unfold dicO
    rw [valG_I, dicO_seen n g r]
    cases e : lookA g m with
    | none => simp [e]
    | some s =>
      have e2 : decide (t = s) = decide (lookA g m = some t) := by
        rw [e]
        by_cases q : t = s
        · simp [q]
        · have q' : ¬ s = t := fun z => q z.symm
          simp [q, q']
      simp only [Option.map_some, geqN_sL, List.all_cons]
      rw [e2]
def SelfIsi (K : PySem.W.Frag) (x : Str) : Prop := PySem.W.kitOne K (.ref (ad K x)) (.ref (ad K x)) = some true
def ds_Sight_eq (K : PySem.W.Frag) : DSp := fun α Q _ => ∃ s t : Sg, α = [some (.d (s.d K)), some (.d (t.d K))] ∧ Q (.d (.bl (decide (s.crew = t.crew) && eqSeen s.seen t.seen))) α
theorem len_Sight_eq (K : PySem.W.Frag) (α : Dl) (Q : SD → Dl → Prop) (E : XQ) (h : ds_Sight_eq K α Q E) : α.length = 2 ∧ ∀ (i : Nat) (c : Cn), α[i]? ≠ some (some (.o c)) := by
  obtain ⟨s, t, rfl, _⟩ := h
  exact lenOf rfl rfl
theorem law_Sight_eq (K : PySem.W.Frag) (ki_Sight : SelfIsi K "Sight") (α : Dl) (Q : SD → Dl → Prop) (E : XQ) (h : ds_Sight_eq K α Q E) : ws_Sight_eq (ad K "Sight") K { nx := finD α Q (.d .non), rt := finD α Q } (finE α E) (startD N_Sight_eq α) := by
  obtain ⟨s, t, rfl, hq⟩ := h
  unfold ws_Sight_eq wIsiC
  walk_at "wp"
  refine ⟨true, ki_Sight, fun C' e => by cases e; rfl, ?_⟩
  walk_at "wp"
  by_cases c : s.crew = t.crew
  · simp only [c, if_true]
    rw [decide_eq_true c, Bool.true_and] at hq
    unfold eqSeen at hq
    by_cases l : s.seen.length = t.seen.length
    · rw [if_pos l, dicO_seen]
      rw [decide_eq_true l, Bool.true_and] at hq
      exact ⟨_, rfl, hq⟩
    · rw [if_neg l]
      rw [decide_eq_false l, Bool.false_and] at hq
      exact ⟨_, rfl, hq⟩
  · simp only [c, if_false]
    rw [decide_eq_false c, Bool.false_and] at hq
    exact hq
section
variable {κ β : Type} [DecidableEq κ]
theorem lookA_put (f : List (κ × β)) (k k' : κ) (v : β) : lookA (putA f k v) k' = if k' = k then some v else lookA f k' := by
  induction f with
  | nil =>
    unfold putA lookA
    by_cases q : k = k'
    · simp [q]
    · have q' : ¬ k' = k := fun h => q h.symm
      simp [q, q']
  | cons p r ih =>
    by_cases q : p.1 = k
    · have hp : putA (p :: r) k v = (p.1, v) :: r.map (fun p => if p.1 = k then (p.1, v) else p) := by
        unfold putA
        simp [q]
      rw [hp]
      by_cases z : k' = k
      · subst z
        unfold lookA
        simp [q]
      · have e1 : ¬ p.1 = k' := fun h => z (h ▸ q)
        have gen : ∀ r : List (κ × β), lookA (r.map fun p => if p.1 = k then (p.1, v) else p) k' = lookA r k' := by
          intro r
          induction r with
          | nil => rfl
          | cons s r ih2 =>
            unfold lookA at ih2 ⊢
            rw [List.map_cons, List.find?_cons, List.find?_cons]
            by_cases w : s.1 = k
            · have w' : ¬ s.1 = k' := fun h => z (h ▸ w)
              rw [if_pos w]
              simp only [w', decide_false]
              exact ih2
            · rw [if_neg w]
              by_cases w2 : s.1 = k'
              · simp [w2]
              · simp only [w2, decide_false]
                exact ih2
        have g := gen r
        unfold lookA at g ⊢
        rw [List.find?_cons, List.find?_cons]
        simp only [e1, decide_false, if_neg z]
        exact g
    · have hp : putA (p :: r) k v = p :: putA r k v := by
        unfold putA
        by_cases a : (r.any fun p => decide (p.1 = k)) = true
        · simp [q, a]
        · have a' : (r.any fun p => decide (p.1 = k)) = false := Bool.eq_false_iff.mpr a
          rw [List.any_cons, a', decide_eq_false q]
          rfl
      rw [hp]
      unfold lookA at ih ⊢
      rw [List.find?_cons, List.find?_cons]
      by_cases w : p.1 = k'
      · have : ¬ k' = k := fun h => q (w.trans h)
        simp [w, this]
      · simp only [w, decide_false]
        exact ih
theorem keys_put (f : List (κ × β)) (k : κ) (v : β) : (putA f k v).map (·.1) = if k ∈ f.map (·.1) then f.map (·.1) else f.map (·.1) ++ [k] := by
  unfold putA
  by_cases a : (f.any fun p => decide (p.1 = k)) = true
  · have m : k ∈ f.map (·.1) := by
      obtain ⟨p, hp, e⟩ := List.any_eq_true.mp a
      exact List.mem_map.mpr ⟨p, hp, of_decide_eq_true e⟩
    rw [if_pos a, if_pos m, List.map_map]
    refine List.map_congr_left fun p _ => ?_
    simp only [Function.comp]
    split
    · rename_i h; rfl
    · rfl
  · have m : ¬ k ∈ f.map (·.1) := fun m => a (by
      obtain ⟨p, hp, e⟩ := List.mem_map.mp m
      exact List.any_eq_true.mpr ⟨p, hp, decide_eq_true e⟩)
    rw [if_neg a, if_neg m, List.map_append]
    rfl
theorem nodup_put {f : List (κ × β)} (h : (f.map (·.1)).Nodup) (k : κ) (v : β) : ((putA f k v).map (·.1)).Nodup := by
  rw [keys_put]
  split
  · exact h
  · rename_i m
    rw [List.nodup_append]
    exact ⟨h, by simp, fun a ha b hb => by rw [List.mem_singleton.mp hb]; exact fun z => m (z ▸ ha)⟩
theorem lookA_mem {f : List (κ × β)} (h : (f.map (·.1)).Nodup) {p : κ × β} (hp : p ∈ f) : lookA f p.1 = some p.2 := by
  induction f with
  | nil => cases hp
  | cons q r ih =>
    rw [List.map_cons, List.nodup_cons] at h
    unfold lookA at ih ⊢
    rw [List.find?_cons]
    rcases List.mem_cons.mp hp with rfl | hp
    · simp
    · have ne : ¬ q.1 = p.1 := fun e => h.1 (e ▸ List.mem_map_of_mem hp)
      simp only [ne, decide_false]
      exact ih h.2 hp
theorem mem_lookA {f : List (κ × β)} {k : κ} {v : β} (h : lookA f k = some v) : (k, v) ∈ f := by
  unfold lookA at h
  cases e : f.find? fun p => decide (p.1 = k) with
  | none => rw [e] at h; cases h
  | some p =>
    rw [e] at h
    have h1 : p.2 = v := Option.some.inj h
    have h2 := List.find?_some e
    have h3 : p.1 = k := of_decide_eq_true h2
    have h4 := List.mem_of_find?_eq_some e
    rw [← h1, ← h3]
    exact h4
end
structure Agree (ps : List Str) (ord : Int → List Str) (L : List Lk) : Prop where
  nb : ∀ x ∈ ps, nameB x = true
  nd : ∀ p ∈ L, (ord p.1).Nodup
  sub : ∀ p ∈ L, ∀ x ∈ ord p.1, x ∈ ps
  pre : ∀ p ∈ L, ∃ k, p.2 = (ord p.1).take k
theorem Agree.tops {ps : List Str} {ord : Int → List Str} {L : List Lk} (h : Agree ps ord L) {p : Lk} (hp : p ∈ L) : isTops ps (sL p.2) = true := by
  obtain ⟨k, e⟩ := h.pre p hp
  have sub : ∀ x ∈ p.2, x ∈ ps := fun x hx => h.sub p hp x (List.mem_of_mem_take (by rw [← e]; exact hx))
  rw [isTops_sL]
  simp only [Bool.and_eq_true, List.all_eq_true, decide_eq_true_eq]
  exact ⟨⟨fun x hx => h.nb x (sub x hx), by rw [e]; exact (h.nd p hp).sublist (List.take_sublist _ _)⟩, sub⟩
theorem Agree.lookOf {ps : List Str} {ord : Int → List Str} {L : List Lk} (h : Agree ps ord L) {p : Lk} (hp : p ∈ L) : lookOf ps (encL p) = some p := by
  unfold Sp.lookOf
  simp only
  rw [if_pos (h.tops hp), strsOf_sL]
theorem goTog_take (o : List Str) (j k : Nat) : goTog (o.take j) (o.take k) = true := by
  unfold goTog
  refine decide_eq_true ?_
  rw [List.take_take, List.take_take, List.length_take, List.length_take]
  congr 1
  omega
theorem seenIn_law {ps : List Str} {ord : Int → List Str} {L : List Lk} (h : Agree ps ord L) :
    seenIn ps (L.map encL) [] = .ok (seenL L) ∧ ((seenL L).map (·.1)).Nodup ∧ (∀ q ∈ seenL L, ∃ k, q.2 = (ord q.1).take k) ∧ ∀ m, m ∈ (seenL L).map (·.1) ↔ m ∈ L.map (·.1) := by
  have gen : ∀ (n : Nat), n ≤ L.length → seenIn ps ((L.take n).map encL) [] = .ok (seenL (L.take n)) ∧ ((seenL (L.take n)).map (·.1)).Nodup ∧ (∀ q ∈ seenL (L.take n), ∃ k, q.2 = (ord q.1).take k) ∧ ∀ m, m ∈ (seenL (L.take n)).map (·.1) ↔ m ∈ (L.take n).map (·.1) := by
    intro n
    induction n with
    | zero => intro _; exact ⟨rfl, List.nodup_nil, (fun q h => nomatch h), fun m => Iff.rfl⟩
    | succ n ih =>
      intro hn
      obtain ⟨h1, h2, h3, h4⟩ := ih (by omega)
      have hlt : n < L.length := by omega
      obtain ⟨p, hp⟩ : ∃ p, L[n]? = some p := ⟨L[n], List.getElem?_eq_getElem hlt⟩
      have hpL : p ∈ L := List.mem_of_getElem? hp
      obtain ⟨_, et⟩ := get_pre hp
      rw [et]
      generalize L.take n = pre at h1 h2 h3 h4
      obtain ⟨m, t⟩ := p
      obtain ⟨k, hk⟩ := h.pre (m, t) hpL
      have hk' : t = (ord m).take k := hk
      -- what is there
      obtain ⟨j, hj⟩ : ∃ j, (lookA (seenL pre) m).getD [] = (ord m).take j := by
        cases e : lookA (seenL pre) m with
        | none => exact ⟨0, by simp⟩
        | some s => obtain ⟨j, hj⟩ := h3 (m, s) (mem_lookA e); exact ⟨j, hj⟩
      have hst : seenStep ps (seenL pre) (encL (m, t)) = some (putA (seenL pre) m (if t.length > ((lookA (seenL pre) m).getD []).length then t else (lookA (seenL pre) m).getD [])) := by
        unfold seenStep
        rw [h.lookOf hpL]
        simp only
        rw [if_pos (by rw [hj, hk']; exact goTog_take _ _ _)]
      have same : putA (seenL pre) m (if t.length > ((lookA (seenL pre) m).getD []).length then t else (lookA (seenL pre) m).getD []) = seenStepL (seenL pre) (m, t) := by
        unfold seenStepL
        simp only
        cases e : lookA (seenL pre) m with
        | none =>
          simp only [Option.getD_none, List.length_nil]
          cases t with
          | nil => rfl
          | cons x r => rfl
        | some s =>
          simp only [Option.getD_some]
          by_cases c : s.length < t.length
          · rw [if_pos c, if_pos c]
          · rw [if_neg c, if_neg c]
            -- put back what stands there
            have any : ((seenL pre).any fun p => decide (p.1 = m)) = true := List.any_eq_true.mpr ⟨(m, s), mem_lookA e, decide_eq_true rfl⟩
            unfold putA
            rw [if_pos any]
            conv => rhs; rw [← List.map_id (seenL pre)]
            refine List.map_congr_left fun p hp => ?_
            by_cases q : p.1 = m
            · rw [if_pos q]
              have := lookA_mem h2 hp
              rw [q, e] at this
              have e2 : s = p.2 := Option.some.inj this
              rw [e2]
              rfl
            · rw [if_neg q]; rfl
      rw [seenL_snoc, ← same]
      refine ⟨?_, nodup_put h2 _ _, fun q hq => ?_, fun m' => ?_⟩
      · rw [List.map_append, seenIn_app, h1]
        show seenIn ps [encL (m, t)] (seenL pre) = _
        rw [seenIn_cons, hst]
        rfl
      · have hl := lookA_mem (nodup_put h2 m (if t.length > ((lookA (seenL pre) m).getD []).length then t else (lookA (seenL pre) m).getD [])) hq
        rw [lookA_put] at hl
        by_cases z : q.1 = m
        · rw [if_pos z] at hl
          have e2 := Option.some.inj hl
          rw [← e2, z]
          split
          · exact ⟨k, hk'⟩
          · exact ⟨j, hj⟩
        · rw [if_neg z] at hl
          exact h3 q (mem_lookA hl)
      · rw [keys_put, List.map_append]
        split
        · rename_i c
          constructor
          · intro h5; exact List.mem_append_left _ ((h4 m').mp h5)
          · intro h5
            rcases List.mem_append.mp h5 with h5 | h5
            · exact (h4 m').mpr h5
            · rw [List.mem_singleton.mp h5]; exact c
        · constructor
          · intro h5
            rcases List.mem_append.mp h5 with h5 | h5
            · exact List.mem_append_left _ ((h4 m').mp h5)
            · exact List.mem_append_right _ h5
          · intro h5
            rcases List.mem_append.mp h5 with h5 | h5
            · exact List.mem_append_left _ ((h4 m').mpr h5)
            · exact List.mem_append_right _ h5
  have := gen L.length (Nat.le_refl _)
  rw [List.take_length] at this
  exact this
end Sp
namespace Sp
open PySem L2 DL
local macro_rules | `(tactic| walk_at "wp") => `(tactic| simp only [wSeq, wIf, wAnd, wOr, wNot, vAnd, vOr, vNot, wB, wBin, wChain, wRet, wRetN, wNext, wNever, wIfE, eF, fO, fS, wNeg, wC, wVar, oVar, wDrop, wSet, wNil, wCons, wLst, wTup, wCall, wFn, wFnP,  wTwo, wThree, wPar, wPar3, wUn, wgN, wgTup, wgCons, wgNil, wAugI, wIsN, sIsN, nonB, wXf, wRaise, wMet, tyOk, sLen, sToInt, sList, sListD, sTuple, sAdd, sInt, sInt0, sIn, sEq, sEqD, sEqX_nil, sEqX_str, sEqX_int, sEqX_bl, sEqX_non, sEqX_sL, sEqX_iL, sEqX_sT, List.isEmpty_map, flt_all, List.isEmpty_nil, List.isEmpty_cons, sIx, sCut, wCut, wNoP, wSoP, wYes, wBreak, wCont, wApp, wPut, wFld, wMeth, wMake, wSetF, putD, nons, wIxD, wInD, wGet2, wNewD, wPutD, wEqO, wMin2, wMax2, wMaxLen, wRev, keyD,  wiSeq, wiTup, wiStr, wiRng1, wiRng2, wiEnum, outSlot,  view, SD.fz, Cn.fz, D.strip, asB, ownOf, keepKind, argsD, finD, finE, backD, startD, wipeD, unblk,  isi_list_lst, isi_list_tup, isi_list_str, isi_list_int, isi_list_bl, isi_list_non, isi_list_dic, isi_tup_lst, isi_tup_tup, isi_tup_str, isi_tup_int, isi_tup_bl, isi_tup_non, isi_tup_dic, isi_str_lst, isi_str_tup, isi_str_str, isi_str_int, isi_str_bl, isi_str_non, isi_str_dic,  isi_int_lst, isi_int_tup, isi_int_str, isi_int_int, isi_int_bl, isi_int_non, isi_int_dic, isi_bl_lst, isi_bl_tup, isi_bl_str, isi_bl_int, isi_bl_bl, isi_bl_non, isi_bl_dic,  eqOk_str, eqOk_int, eqOk_bl, eqOk_non, eqOk_sL, eqOk_iL, eqOk_nil, eqOk_nilT, deq_str, deq_int, deq_non, deq_sL, deq_iL, deq_sL_nil, deq_iL_nil, dmem_str, dmem_int, some_strs, some_ints, sIndex_str, sIndex_int, sJoin_str, sSum_int, sSorted_str, sSorted_int, keys_I, keys_S, valG_I, valG_S, putG_I, putG_S, encA_len, Option.isSome_map, PySem.sizeLine_eq,  List.getElem?_cons_succ, List.getElem?_cons_zero, List.getElem?_nil, List.set_cons_succ, List.set_cons_zero, List.length_cons, List.length_nil, List.length_map, List.length_append, List.map_cons, List.map_nil, List.cons_append, List.nil_append, List.replicate_succ, List.replicate_zero, List.getD_cons_succ, List.getD_cons_zero, List.lookup_cons, List.lookup_nil, nm_players_crew, nm_moments_crew, nm_tops_crew, nm_above_crew, nm_check_moment_crew, nm_with_look_crew, nm_all_looks_crew, nm_until_crew, nm_renamed_crew, nm_is_pair_crew, nm_rows_crew, nm_least_at_crew, nm_most_at_crew, nm_seen_crew, nm_folk_crew, nm_shown_crew, nm_notes_crew, nm_count_crew, nm_total_crew, nm_look_crew, nm_undo_crew, nm_copy_crew, nm_sight_crew, nm_players_seen, nm_moments_seen, nm_tops_seen, nm_above_seen, nm_check_moment_seen, nm_with_look_seen, nm_all_looks_seen, nm_until_seen, nm_renamed_seen, nm_is_pair_seen, nm_rows_seen, nm_least_at_seen, nm_most_at_seen, nm_crew_seen, nm_folk_seen, nm_shown_seen, nm_notes_seen, nm_count_seen, nm_total_seen, nm_look_seen, nm_undo_seen, nm_copy_seen, nm_sight_seen, nm_players_folk, nm_moments_folk, nm_tops_folk, nm_above_folk, nm_check_moment_folk, nm_with_look_folk, nm_all_looks_folk, nm_until_folk, nm_renamed_folk, nm_is_pair_folk, nm_rows_folk, nm_least_at_folk, nm_most_at_folk, nm_crew_folk, nm_seen_folk, nm_shown_folk, nm_notes_folk, nm_count_folk, nm_total_folk, nm_look_folk, nm_undo_folk, nm_copy_folk, nm_sight_folk, nm_players_shown, nm_moments_shown, nm_tops_shown, nm_above_shown, nm_check_moment_shown, nm_with_look_shown, nm_all_looks_shown, nm_until_shown, nm_renamed_shown, nm_is_pair_shown, nm_rows_shown, nm_least_at_shown, nm_most_at_shown, nm_crew_shown, nm_seen_shown, nm_folk_shown, nm_notes_shown, nm_count_shown, nm_total_shown, nm_look_shown, nm_undo_shown, nm_copy_shown, nm_sight_shown, nm_players_notes, nm_moments_notes, nm_tops_notes, nm_above_notes, nm_check_moment_notes, nm_with_look_notes, nm_all_looks_notes, nm_until_notes, nm_renamed_notes, nm_is_pair_notes, nm_rows_notes, nm_least_at_notes, nm_most_at_notes, nm_crew_notes, nm_seen_notes, nm_folk_notes, nm_shown_notes, nm_count_notes, nm_total_notes, nm_look_notes, nm_undo_notes, nm_copy_notes, nm_sight_notes,  Nat.reduceAdd, Nat.reduceSub, Nat.reduceLT, Nat.reduceLeDiff, Nat.reduceMul, Nat.reduceEqDiff, Nat.zero_add, Nat.add_zero, Nat.lt_add_left_iff_pos, Nat.le_add_left, Nat.zero_le, Nat.zero_lt_succ, Nat.succ_lt_succ_iff,  Cn.l.injEq, Cn.k.injEq, true_and, and_true, exists_eq', exists_eq_left', Option.some.injEq, Option.map_some, Option.map_none, Option.bind_some, Option.isSome_some, Option.isSome_none,  decide_eq_true_eq, Bool.false_eq_true, Bool.not_eq_true', Bool.not_true, Bool.not_false, Bool.not_not, Bool.true_xor, Bool.false_xor, decide_eq_false_iff_not, if_true, if_false, ite_true, ite_false, reduceIte, reduceCtorEq, decide_true, decide_false, decide_not, and_self, eq_self, ne_eq, not_true, not_false_eq_true, exists_const, and_imp, beq_self_eq_true])
local macro_rules | `(tactic| walk_at "wq") => `(tactic| try walk_at "wp")
local macro_rules | `(tactic| walk_at "w1") => `(tactic| simp only [wSeq_k, wIf, wAnd, wOr, wNot, vAnd, vOr, vNot, wB, wBin, wChain, wRet, wRetN, wNext, wNever, wIfE, eF, fO, fS, wNeg, wC, wVar, oVar, wDrop, wSet, wNil, wCons, wLst, wTup, wCall, wFn, wFnP,  wTwo, wThree, wPar, wPar3, wUn, wgN, wgTup, wgCons, wgNil, wAugI, wIsN, sIsN, nonB, wXf, wRaise, wMet, tyOk, sLen, sToInt, sList, sListD, sTuple, sAdd, sInt, sInt0, sIn, sEq, sEqD, sEqX_nil, sEqX_str, sEqX_int, sEqX_bl, sEqX_non, sEqX_sL, sEqX_iL, sEqX_sT, List.isEmpty_map, flt_all, List.isEmpty_nil, List.isEmpty_cons, sIx, sCut, wCut, wNoP, wSoP, wYes, wBreak, wCont, wApp, wPut, wFld, wMeth, wMake, wSetF, putD, nons, wIxD, wInD, wGet2, wNewD, wPutD, wEqO, wMin2, wMax2, wMaxLen, wRev, keyD,  wiSeq, wiTup, wiStr, wiRng1, wiRng2, wiEnum, outSlot,  view, SD.fz, Cn.fz, D.strip, asB, ownOf, keepKind, argsD, finD, finE, backD, startD, wipeD, unblk,  isi_list_lst, isi_list_tup, isi_list_str, isi_list_int, isi_list_bl, isi_list_non, isi_list_dic, isi_tup_lst, isi_tup_tup, isi_tup_str, isi_tup_int, isi_tup_bl, isi_tup_non, isi_tup_dic, isi_str_lst, isi_str_tup, isi_str_str, isi_str_int, isi_str_bl, isi_str_non, isi_str_dic,  isi_int_lst, isi_int_tup, isi_int_str, isi_int_int, isi_int_bl, isi_int_non, isi_int_dic, isi_bl_lst, isi_bl_tup, isi_bl_str, isi_bl_int, isi_bl_bl, isi_bl_non, isi_bl_dic,  eqOk_str, eqOk_int, eqOk_bl, eqOk_non, eqOk_sL, eqOk_iL, eqOk_nil, eqOk_nilT, deq_str, deq_int, deq_non, deq_sL, deq_iL, deq_sL_nil, deq_iL_nil, dmem_str, dmem_int, some_strs, some_ints, sIndex_str, sIndex_int, sJoin_str, sSum_int, sSorted_str, sSorted_int, keys_I, keys_S, valG_I, valG_S, putG_I, putG_S, encA_len, Option.isSome_map, PySem.sizeLine_eq,  List.getElem?_cons_succ, List.getElem?_cons_zero, List.getElem?_nil, List.set_cons_succ, List.set_cons_zero, List.length_cons, List.length_nil, List.length_map, List.length_append, List.map_cons, List.map_nil, List.cons_append, List.nil_append, List.replicate_succ, List.replicate_zero, List.getD_cons_succ, List.getD_cons_zero, List.lookup_cons, List.lookup_nil, nm_players_crew, nm_moments_crew, nm_tops_crew, nm_above_crew, nm_check_moment_crew, nm_with_look_crew, nm_all_looks_crew, nm_until_crew, nm_renamed_crew, nm_is_pair_crew, nm_rows_crew, nm_least_at_crew, nm_most_at_crew, nm_seen_crew, nm_folk_crew, nm_shown_crew, nm_notes_crew, nm_count_crew, nm_total_crew, nm_look_crew, nm_undo_crew, nm_copy_crew, nm_sight_crew, nm_players_seen, nm_moments_seen, nm_tops_seen, nm_above_seen, nm_check_moment_seen, nm_with_look_seen, nm_all_looks_seen, nm_until_seen, nm_renamed_seen, nm_is_pair_seen, nm_rows_seen, nm_least_at_seen, nm_most_at_seen, nm_crew_seen, nm_folk_seen, nm_shown_seen, nm_notes_seen, nm_count_seen, nm_total_seen, nm_look_seen, nm_undo_seen, nm_copy_seen, nm_sight_seen, nm_players_folk, nm_moments_folk, nm_tops_folk, nm_above_folk, nm_check_moment_folk, nm_with_look_folk, nm_all_looks_folk, nm_until_folk, nm_renamed_folk, nm_is_pair_folk, nm_rows_folk, nm_least_at_folk, nm_most_at_folk, nm_crew_folk, nm_seen_folk, nm_shown_folk, nm_notes_folk, nm_count_folk, nm_total_folk, nm_look_folk, nm_undo_folk, nm_copy_folk, nm_sight_folk, nm_players_shown, nm_moments_shown, nm_tops_shown, nm_above_shown, nm_check_moment_shown, nm_with_look_shown, nm_all_looks_shown, nm_until_shown, nm_renamed_shown, nm_is_pair_shown, nm_rows_shown, nm_least_at_shown, nm_most_at_shown, nm_crew_shown, nm_seen_shown, nm_folk_shown, nm_notes_shown, nm_count_shown, nm_total_shown, nm_look_shown, nm_undo_shown, nm_copy_shown, nm_sight_shown, nm_players_notes, nm_moments_notes, nm_tops_notes, nm_above_notes, nm_check_moment_notes, nm_with_look_notes, nm_all_looks_notes, nm_until_notes, nm_renamed_notes, nm_is_pair_notes, nm_rows_notes, nm_least_at_notes, nm_most_at_notes, nm_crew_notes, nm_seen_notes, nm_folk_notes, nm_shown_notes, nm_count_notes, nm_total_notes, nm_look_notes, nm_undo_notes, nm_copy_notes, nm_sight_notes,  Nat.reduceAdd, Nat.reduceSub, Nat.reduceLT, Nat.reduceLeDiff, Nat.reduceMul, Nat.reduceEqDiff, Nat.zero_add, Nat.add_zero, Nat.lt_add_left_iff_pos, Nat.le_add_left, Nat.zero_le, Nat.zero_lt_succ, Nat.succ_lt_succ_iff,  Cn.l.injEq, Cn.k.injEq, true_and, and_true, exists_eq', exists_eq_left', Option.some.injEq, Option.map_some, Option.map_none, Option.bind_some, Option.isSome_some, Option.isSome_none,  decide_eq_true_eq, Bool.false_eq_true, Bool.not_eq_true', Bool.not_true, Bool.not_false, Bool.not_not, Bool.true_xor, Bool.false_xor, decide_eq_false_iff_not, if_true, if_false, ite_true, ite_false, reduceIte, reduceCtorEq, decide_true, decide_false, decide_not, and_self, eq_self, ne_eq, not_true, not_false_eq_true, exists_const, and_imp, beq_self_eq_true])
local macro_rules | `(tactic| walk_at "ws") => `(tactic| repeat (first | refine kont_intro ?_ | walk_at "w1"))
theorem isort_of_sorted {xs : List Int} (h : xs.Pairwise (· ≤ ·)) : isort xs = xs :=
  (isort_perm xs).eq_of_pairwise (le := (· ≤ ·)) (fun _ _ _ _ h1 h2 => Int.le_antisymm h1 h2) (isort_sorted xs) h
theorem isort_nodup {xs : List Int} (h : xs.Nodup) : (isort xs).Nodup := (isort_perm xs).nodup_iff.mpr h
theorem lookA_map {β : Type} (g : Int → β) : ∀ (ks : List Int) (m : Int), lookA (ks.map fun k => (k, g k)) m = if m ∈ ks then some (g m) else none
  | [], m => by simp [lookA]
  | k :: ks, m => by
    have ih := lookA_map g ks m
    unfold lookA at ih ⊢
    rw [List.map_cons, List.find?_cons]
    by_cases q : k = m
    · subst q
      simp
    · have q' : ¬ m = k := fun h => q h.symm
      simp only [q, decide_false, List.mem_cons, q', false_or]
      exact ih
theorem sightL_keys (f : List Lk) : (sightL f).map (·.1) = isort (f.map (·.1)) := by
  unfold sightL
  rw [List.map_map]
  exact List.map_id _
theorem lookA_sightL {f : List Lk} {m : Int} (h : m ∈ f.map (·.1)) : lookA (sightL f) m = some ((lookA f m).getD []) := by
  unfold sightL
  rw [lookA_map, if_pos (isort_mem.mpr h)]
theorem sightL_len (f : List Lk) : (sightL f).length = f.length := by
  unfold sightL
  rw [List.length_map, isort_len, List.length_map]
theorem putA_new {κ β : Type} [DecidableEq κ] {f : List (κ × β)} {k : κ} {v : β} (h : k ∉ f.map (·.1)) : putA f k v = f ++ [(k, v)] := by
  unfold putA
  rw [if_neg]
  intro a
  obtain ⟨p, hp, e⟩ := List.any_eq_true.mp a
  exact h (List.mem_map.mpr ⟨p, hp, of_decide_eq_true e⟩)
theorem lookA_none {κ β : Type} [DecidableEq κ] {f : List (κ × β)} {k : κ} (h : k ∉ f.map (·.1)) : lookA f k = none := by
  have := lookA_isSome (kvs := f) (k := k)
  rw [decide_eq_false h] at this
  cases e : lookA f k with
  | none => rfl
  | some v => rw [e] at this; cases this
theorem seenL_nodup (T : List Lk) (h : (T.map (·.1)).Nodup) : seenL T = T := by
  have gen : ∀ (T acc : List Lk), ((acc ++ T).map (·.1)).Nodup → T.foldl seenStepL acc = acc ++ T := by
    intro T
    induction T with
    | nil => intro acc _; simp
    | cons p T ih =>
      intro acc nd
      have nin : p.1 ∉ acc.map (·.1) := by
        rw [List.map_append, List.nodup_append] at nd
        exact fun hm => nd.2.2 p.1 hm p.1 (by simp) rfl
      have e : seenStepL acc p = acc ++ [p] := by
        unfold seenStepL
        rw [lookA_none nin]
        exact putA_new nin
      rw [List.foldl_cons, e, ih (acc ++ [p]) (by rw [List.append_assoc]; exact nd), List.append_assoc]
      rfl
  exact gen T [] h
theorem eqSeen_sightL {f : List Lk} (h : (f.map (·.1)).Nodup) : eqSeen f (sightL f) = true := by
  unfold eqSeen
  rw [sightL_len, decide_eq_true rfl, Bool.true_and, List.all_eq_true]
  intro p hp
  rw [lookA_sightL (List.mem_map_of_mem hp), lookA_mem h hp]
  exact decide_eq_true rfl
theorem HOk.keys {o0 : List Str} {hs : List Hd} {o : List Str} (h : HOk o0 hs o) : (hs.map (·.1)).Pairwise (· < ·) := by
  induction h with
  | nil => exact .nil
  | snoc h hm _ _ ih =>
    rw [List.map_append, List.pairwise_append]
    refine ⟨ih, by simp, fun a ha b hb => ?_⟩
    obtain ⟨r, hr, rfl⟩ := List.mem_map.mp ha
    simp only [List.map_cons, List.map_nil, List.mem_singleton] at hb
    subst hb
    exact hm r hr
theorem nodup_of_lt {xs : List Int} (h : xs.Pairwise (· < ·)) : xs.Nodup := h.imp fun h => Int.ne_of_lt h
def ordOf (hs : List Hd) (m : Int) : List Str := ((lookA hs m).map (·.1)).getD []
theorem ordOf_at {o0 : List Str} {hs : List Hd} {o : List Str} (h : HOk o0 hs o) {r : Hd} (hr : r ∈ hs) : ordOf hs r.1 = r.2.1 := by
  unfold ordOf
  rw [lookA_mem (nodup_of_lt h.keys) hr]
  rfl
theorem drawn_agree {ps o0 o : List Str} {hs : List Hd} {L : List Lk} (nb : ∀ x ∈ ps, nameB x = true) (nd : ps.Nodup) (pm : o0.Perm ps) (h : HOk o0 hs o) (hl : LooksOf hs L) : Agree ps (ordOf hs) L := by
  have nd0 : o0.Nodup := pm.nodup_iff.mpr nd
  have each : ∀ r ∈ hs, r.2.1.Perm ps := fun r hr => ((h.last nd0).2.2 r hr).trans pm
  refine ⟨nb, fun p hp => ?_, fun p hp x hx => ?_, fun p hp => ?_⟩
  · obtain ⟨r, hr, e, _⟩ := hl.from_ p hp
    rw [e, ordOf_at h hr]
    exact (each r hr).nodup_iff.mpr nd
  · obtain ⟨r, hr, e, _⟩ := hl.from_ p hp
    rw [e, ordOf_at h hr] at hx
    exact (each r hr).mem_iff.mp hx
  · obtain ⟨r, hr, e, k, ek⟩ := hl.from_ p hp
    exact ⟨k, by rw [e, ordOf_at h hr]; exact ek⟩
structure Seen (ps : List Str) (hs : List Hd) (L : List Lk) : Prop where
  run : seenIn ps (L.map encL) [] = .ok (seenL L)
  keys : ((seenL L).map (·.1)).Nodup
  pre : ∀ q ∈ seenL L, ∃ k, q.2 = (ordOf hs q.1).take k
  mem : ∀ m, m ∈ (seenL L).map (·.1) ↔ m ∈ L.map (·.1)
  run2 : seenIn ps ((sightL (seenL L)).map encL) [] = .ok (sightL (seenL L))
  ag : Agree ps (ordOf hs) L
  ag2 : Agree ps (ordOf hs) (sightL (seenL L))
theorem Agree.names {ps : List Str} {ord : Int → List Str} {L : List Lk} (h : Agree ps ord L) (hl : ps.length < 4000) : ∀ p ∈ L, (∀ x ∈ p.2, nameB x = true) ∧ p.2.length < 4000 := fun p hp => by
  obtain ⟨k, e⟩ := h.pre p hp
  have sub : ∀ x ∈ p.2, x ∈ ps := fun x hx => h.sub p hp x (List.mem_of_mem_take (by rw [← e]; exact hx))
  have nd : p.2.Nodup := by rw [e]; exact (h.nd p hp).sublist (List.take_sublist _ _)
  have := nodup_sub_len nd sub
  exact ⟨fun x hx => h.nb x (sub x hx), by omega⟩
theorem vld_strs {ss : List Str} (h : ∀ x ∈ ss, nameB x = true) (hl : ss.length < 4000) : vld (sL ss) = true := vld_lst_of (by rw [List.length_map]; exact hl) fun d hd => by
  obtain ⟨x, hx, rfl⟩ := List.mem_map.mp hd
  have := nameB_len (h x hx)
  simp only [vld, decide_eq_true_eq]
  omega
theorem vld_look {p : Lk} (h : ∀ x ∈ p.2, nameB x = true) (hl : p.2.length < 4000) : vld (encL p) = true := vld_tup_of (by show 2 < 4000; decide) fun d hd => by
  simp only [List.mem_cons, List.not_mem_nil, or_false] at hd
  rcases hd with rfl | rfl
  · rfl
  · exact vld_strs h hl
theorem vld_looks {L : List Lk} (h : ∀ p ∈ L, (∀ x ∈ p.2, nameB x = true) ∧ p.2.length < 4000) (hl : L.length < 4000) : vld (.lst (L.map encL)) = true := vld_lst_of (by rw [List.length_map]; exact hl) fun d hd => by
  obtain ⟨p, hp, rfl⟩ := List.mem_map.mp hd
  exact vld_look (h p hp).1 (h p hp).2
theorem use_Sight {K : PySem.W.Frag} {ps : List Str} {L f : List Lk} {Q : SD → Dl → Prop} {E : XQ} (h1 : ∀ x ∈ ps, nameB x = true) (h2 : ps.Nodup) (h3 : ps ≠ []) (h4 : ps.length < 4000) (h5 : vld (.lst (L.map encL)) = true) (h6 : seenIn ps (L.map encL) [] = .ok f)
    (q : Q (.d .non) [some (.p (.ob (ad K "Sight") (Sg.fs ⟨ps, f⟩))), some (.d (sL ps)), some (.d (.lst (L.map encL)))]) :
    ds_Sight_init K [some (.p (.ob (ad K "Sight") [])), some (.d (sL ps)), some (.d (.lst (L.map encL)))] Q E := by
  refine ⟨sL ps, .lst (L.map encL), rfl, vld_strs h1 h4, h5, fun h => ?_, fun ps' _ e => ?_⟩
  · rw [arePlayers_of h1 h2 h3] at h; cases h
  · have := sL_inj e
    subst this
    simp only [h6]
    exact q
end Sp
namespace Sp
open PySem L2 DL
local macro_rules | `(tactic| walk_at "wp") => `(tactic| simp only [wSeq, wIf, wAnd, wOr, wNot, vAnd, vOr, vNot, wB, wBin, wChain, wRet, wRetN, wNext, wNever, wIfE, eF, fO, fS, wNeg, wC, wVar, oVar, wDrop, wSet, wNil, wCons, wLst, wTup, wCall, wFn, wFnP,  wTwo, wThree, wPar, wPar3, wUn, wgN, wgTup, wgCons, wgNil, wAugI, wIsN, sIsN, nonB, wXf, wRaise, wMet, tyOk, sLen, sToInt, sList, sListD, sTuple, sAdd, sInt, sInt0, sIn, sEq, sEqD, sEqX_nil, sEqX_str, sEqX_int, sEqX_bl, sEqX_non, sEqX_sL, sEqX_iL, sEqX_sT, List.isEmpty_map, flt_all, List.isEmpty_nil, List.isEmpty_cons, sIx, sCut, wCut, wNoP, wSoP, wYes, wBreak, wCont, wApp, wPut, wFld, wMeth, wMake, wSetF, putD, nons, wIxD, wInD, wGet2, wNewD, wPutD, wEqO, wMin2, wMax2, wMaxLen, wRev, keyD,  wiSeq, wiTup, wiStr, wiRng1, wiRng2, wiEnum, outSlot,  view, SD.fz, Cn.fz, D.strip, asB, ownOf, keepKind, argsD, finD, finE, backD, startD, wipeD, unblk,  isi_list_lst, isi_list_tup, isi_list_str, isi_list_int, isi_list_bl, isi_list_non, isi_list_dic, isi_tup_lst, isi_tup_tup, isi_tup_str, isi_tup_int, isi_tup_bl, isi_tup_non, isi_tup_dic, isi_str_lst, isi_str_tup, isi_str_str, isi_str_int, isi_str_bl, isi_str_non, isi_str_dic,  isi_int_lst, isi_int_tup, isi_int_str, isi_int_int, isi_int_bl, isi_int_non, isi_int_dic, isi_bl_lst, isi_bl_tup, isi_bl_str, isi_bl_int, isi_bl_bl, isi_bl_non, isi_bl_dic,  eqOk_str, eqOk_int, eqOk_bl, eqOk_non, eqOk_sL, eqOk_iL, eqOk_nil, eqOk_nilT, deq_str, deq_int, deq_non, deq_sL, deq_iL, deq_sL_nil, deq_iL_nil, dmem_str, dmem_int, some_strs, some_ints, sIndex_str, sIndex_int, sJoin_str, sSum_int, sSorted_str, sSorted_int, keys_I, keys_S, valG_I, valG_S, putG_I, putG_S, encA_len, Option.isSome_map, PySem.sizeLine_eq,  List.getElem?_cons_succ, List.getElem?_cons_zero, List.getElem?_nil, List.set_cons_succ, List.set_cons_zero, List.length_cons, List.length_nil, List.length_map, List.length_append, List.map_cons, List.map_nil, List.cons_append, List.nil_append, List.replicate_succ, List.replicate_zero, List.getD_cons_succ, List.getD_cons_zero, List.lookup_cons, List.lookup_nil, nm_players_crew, nm_moments_crew, nm_tops_crew, nm_above_crew, nm_check_moment_crew, nm_with_look_crew, nm_all_looks_crew, nm_until_crew, nm_renamed_crew, nm_is_pair_crew, nm_rows_crew, nm_least_at_crew, nm_most_at_crew, nm_seen_crew, nm_folk_crew, nm_shown_crew, nm_notes_crew, nm_count_crew, nm_total_crew, nm_look_crew, nm_undo_crew, nm_copy_crew, nm_sight_crew, nm_players_seen, nm_moments_seen, nm_tops_seen, nm_above_seen, nm_check_moment_seen, nm_with_look_seen, nm_all_looks_seen, nm_until_seen, nm_renamed_seen, nm_is_pair_seen, nm_rows_seen, nm_least_at_seen, nm_most_at_seen, nm_crew_seen, nm_folk_seen, nm_shown_seen, nm_notes_seen, nm_count_seen, nm_total_seen, nm_look_seen, nm_undo_seen, nm_copy_seen, nm_sight_seen, nm_players_folk, nm_moments_folk, nm_tops_folk, nm_above_folk, nm_check_moment_folk, nm_with_look_folk, nm_all_looks_folk, nm_until_folk, nm_renamed_folk, nm_is_pair_folk, nm_rows_folk, nm_least_at_folk, nm_most_at_folk, nm_crew_folk, nm_seen_folk, nm_shown_folk, nm_notes_folk, nm_count_folk, nm_total_folk, nm_look_folk, nm_undo_folk, nm_copy_folk, nm_sight_folk, nm_players_shown, nm_moments_shown, nm_tops_shown, nm_above_shown, nm_check_moment_shown, nm_with_look_shown, nm_all_looks_shown, nm_until_shown, nm_renamed_shown, nm_is_pair_shown, nm_rows_shown, nm_least_at_shown, nm_most_at_shown, nm_crew_shown, nm_seen_shown, nm_folk_shown, nm_notes_shown, nm_count_shown, nm_total_shown, nm_look_shown, nm_undo_shown, nm_copy_shown, nm_sight_shown, nm_players_notes, nm_moments_notes, nm_tops_notes, nm_above_notes, nm_check_moment_notes, nm_with_look_notes, nm_all_looks_notes, nm_until_notes, nm_renamed_notes, nm_is_pair_notes, nm_rows_notes, nm_least_at_notes, nm_most_at_notes, nm_crew_notes, nm_seen_notes, nm_folk_notes, nm_shown_notes, nm_count_notes, nm_total_notes, nm_look_notes, nm_undo_notes, nm_copy_notes, nm_sight_notes,  Nat.reduceAdd, Nat.reduceSub, Nat.reduceLT, Nat.reduceLeDiff, Nat.reduceMul, Nat.reduceEqDiff, Nat.zero_add, Nat.add_zero, Nat.lt_add_left_iff_pos, Nat.le_add_left, Nat.zero_le, Nat.zero_lt_succ, Nat.succ_lt_succ_iff,  Cn.l.injEq, Cn.k.injEq, true_and, and_true, exists_eq', exists_eq_left', Option.some.injEq, Option.map_some, Option.map_none, Option.bind_some, Option.isSome_some, Option.isSome_none,  decide_eq_true_eq, Bool.false_eq_true, Bool.not_eq_true', Bool.not_true, Bool.not_false, Bool.not_not, Bool.true_xor, Bool.false_xor, decide_eq_false_iff_not, if_true, if_false, ite_true, ite_false, reduceIte, reduceCtorEq, decide_true, decide_false, decide_not, and_self, eq_self, ne_eq, not_true, not_false_eq_true, exists_const, and_imp, beq_self_eq_true])
local macro_rules | `(tactic| walk_at "wq") => `(tactic| try walk_at "wp")
local macro_rules | `(tactic| walk_at "w1") => `(tactic| simp only [wSeq_k, wIf, wAnd, wOr, wNot, vAnd, vOr, vNot, wB, wBin, wChain, wRet, wRetN, wNext, wNever, wIfE, eF, fO, fS, wNeg, wC, wVar, oVar, wDrop, wSet, wNil, wCons, wLst, wTup, wCall, wFn, wFnP,  wTwo, wThree, wPar, wPar3, wUn, wgN, wgTup, wgCons, wgNil, wAugI, wIsN, sIsN, nonB, wXf, wRaise, wMet, tyOk, sLen, sToInt, sList, sListD, sTuple, sAdd, sInt, sInt0, sIn, sEq, sEqD, sEqX_nil, sEqX_str, sEqX_int, sEqX_bl, sEqX_non, sEqX_sL, sEqX_iL, sEqX_sT, List.isEmpty_map, flt_all, List.isEmpty_nil, List.isEmpty_cons, sIx, sCut, wCut, wNoP, wSoP, wYes, wBreak, wCont, wApp, wPut, wFld, wMeth, wMake, wSetF, putD, nons, wIxD, wInD, wGet2, wNewD, wPutD, wEqO, wMin2, wMax2, wMaxLen, wRev, keyD,  wiSeq, wiTup, wiStr, wiRng1, wiRng2, wiEnum, outSlot,  view, SD.fz, Cn.fz, D.strip, asB, ownOf, keepKind, argsD, finD, finE, backD, startD, wipeD, unblk,  isi_list_lst, isi_list_tup, isi_list_str, isi_list_int, isi_list_bl, isi_list_non, isi_list_dic, isi_tup_lst, isi_tup_tup, isi_tup_str, isi_tup_int, isi_tup_bl, isi_tup_non, isi_tup_dic, isi_str_lst, isi_str_tup, isi_str_str, isi_str_int, isi_str_bl, isi_str_non, isi_str_dic,  isi_int_lst, isi_int_tup, isi_int_str, isi_int_int, isi_int_bl, isi_int_non, isi_int_dic, isi_bl_lst, isi_bl_tup, isi_bl_str, isi_bl_int, isi_bl_bl, isi_bl_non, isi_bl_dic,  eqOk_str, eqOk_int, eqOk_bl, eqOk_non, eqOk_sL, eqOk_iL, eqOk_nil, eqOk_nilT, deq_str, deq_int, deq_non, deq_sL, deq_iL, deq_sL_nil, deq_iL_nil, dmem_str, dmem_int, some_strs, some_ints, sIndex_str, sIndex_int, sJoin_str, sSum_int, sSorted_str, sSorted_int, keys_I, keys_S, valG_I, valG_S, putG_I, putG_S, encA_len, Option.isSome_map, PySem.sizeLine_eq,  List.getElem?_cons_succ, List.getElem?_cons_zero, List.getElem?_nil, List.set_cons_succ, List.set_cons_zero, List.length_cons, List.length_nil, List.length_map, List.length_append, List.map_cons, List.map_nil, List.cons_append, List.nil_append, List.replicate_succ, List.replicate_zero, List.getD_cons_succ, List.getD_cons_zero, List.lookup_cons, List.lookup_nil, nm_players_crew, nm_moments_crew, nm_tops_crew, nm_above_crew, nm_check_moment_crew, nm_with_look_crew, nm_all_looks_crew, nm_until_crew, nm_renamed_crew, nm_is_pair_crew, nm_rows_crew, nm_least_at_crew, nm_most_at_crew, nm_seen_crew, nm_folk_crew, nm_shown_crew, nm_notes_crew, nm_count_crew, nm_total_crew, nm_look_crew, nm_undo_crew, nm_copy_crew, nm_sight_crew, nm_players_seen, nm_moments_seen, nm_tops_seen, nm_above_seen, nm_check_moment_seen, nm_with_look_seen, nm_all_looks_seen, nm_until_seen, nm_renamed_seen, nm_is_pair_seen, nm_rows_seen, nm_least_at_seen, nm_most_at_seen, nm_crew_seen, nm_folk_seen, nm_shown_seen, nm_notes_seen, nm_count_seen, nm_total_seen, nm_look_seen, nm_undo_seen, nm_copy_seen, nm_sight_seen, nm_players_folk, nm_moments_folk, nm_tops_folk, nm_above_folk, nm_check_moment_folk, nm_with_look_folk, nm_all_looks_folk, nm_until_folk, nm_renamed_folk, nm_is_pair_folk, nm_rows_folk, nm_least_at_folk, nm_most_at_folk, nm_crew_folk, nm_seen_folk, nm_shown_folk, nm_notes_folk, nm_count_folk, nm_total_folk, nm_look_folk, nm_undo_folk, nm_copy_folk, nm_sight_folk, nm_players_shown, nm_moments_shown, nm_tops_shown, nm_above_shown, nm_check_moment_shown, nm_with_look_shown, nm_all_looks_shown, nm_until_shown, nm_renamed_shown, nm_is_pair_shown, nm_rows_shown, nm_least_at_shown, nm_most_at_shown, nm_crew_shown, nm_seen_shown, nm_folk_shown, nm_notes_shown, nm_count_shown, nm_total_shown, nm_look_shown, nm_undo_shown, nm_copy_shown, nm_sight_shown, nm_players_notes, nm_moments_notes, nm_tops_notes, nm_above_notes, nm_check_moment_notes, nm_with_look_notes, nm_all_looks_notes, nm_until_notes, nm_renamed_notes, nm_is_pair_notes, nm_rows_notes, nm_least_at_notes, nm_most_at_notes, nm_crew_notes, nm_seen_notes, nm_folk_notes, nm_shown_notes, nm_count_notes, nm_total_notes, nm_look_notes, nm_undo_notes, nm_copy_notes, nm_sight_notes,  Nat.reduceAdd, Nat.reduceSub, Nat.reduceLT, Nat.reduceLeDiff, Nat.reduceMul, Nat.reduceEqDiff, Nat.zero_add, Nat.add_zero, Nat.lt_add_left_iff_pos, Nat.le_add_left, Nat.zero_le, Nat.zero_lt_succ, Nat.succ_lt_succ_iff,  Cn.l.injEq, Cn.k.injEq, true_and, and_true, exists_eq', exists_eq_left', Option.some.injEq, Option.map_some, Option.map_none, Option.bind_some, Option.isSome_some, Option.isSome_none,  decide_eq_true_eq, Bool.false_eq_true, Bool.not_eq_true', Bool.not_true, Bool.not_false, Bool.not_not, Bool.true_xor, Bool.false_xor, decide_eq_false_iff_not, if_true, if_false, ite_true, ite_false, reduceIte, reduceCtorEq, decide_true, decide_false, decide_not, and_self, eq_self, ne_eq, not_true, not_false_eq_true, exists_const, and_imp, beq_self_eq_true])
local macro_rules | `(tactic| walk_at "ws") => `(tactic| repeat (first | refine kont_intro ?_ | walk_at "w1"))
def ds_l_known : DSp := fun α Q _ => ∃ (tops : List Str) (a b : Str), α = [some (.d (sL tops)), some (.d (.str a)), some (.d (.str b))] ∧ Q (.d (optB (knownAbove tops a b))) α
theorem len_l_known (α : Dl) (Q : SD → Dl → Prop) (E : XQ) (h : ds_l_known α Q E) : α.length = 3 ∧ ∀ (i : Nat) (c : Cn), α[i]? ≠ some (some (.o c)) := by
  obtain ⟨x, c, d, rfl, _⟩ := h
  exact lenOf rfl rfl
theorem law_l_known (α : Dl) (Q : SD → Dl → Prop) (E : XQ) (h : ds_l_known α Q E) : ws_l_known { nx := finD α Q (.d .non), rt := finD α Q } (finE α E) (startD N_l_known α) := by
  obtain ⟨tops, a, b, rfl, hq⟩ := h
  unfold ws_l_known ws_l_known_t1 ws_l_known_t2
  walk_at "wp"
  unfold knownAbove at hq
  by_cases ha : a ∈ tops <;> by_cases hb : b ∈ tops <;> simp only [ha, hb, if_true, if_false, true_and, not_true_eq_false, not_false_eq_true] at hq ⊢
  · have e : decide (((tops.idxOf a : Nat) : Int) < ((tops.idxOf b : Nat) : Int)) = decide (tops.idxOf a < tops.idxOf b) := by
      congr 1
      exact propext ⟨fun h => by omega, fun h => by omega⟩
    rw [e]
    exact hq
  · exact hq
  · exact hq
  · exact hq
def SgS (K : PySem.W.Frag) (s : Sg) (sd : Option SD) : Prop := sd = some (.d (s.d K)) ∨ sd = some (.o (.ob (ad K "Sight") s.fs))
structure Drawn (ps : List Str) (hs : List Hd) (L : List Lk) : Prop where
  wd : ∀ x ∈ ps, wordB x = true
  nd : ps.Nodup
  ne : ps ≠ []
  few : ps.length ≤ 24
  seen : Seen ps hs L
  len : L.length < 4000
  some_ : L ≠ []
  low : ∀ m ∈ (seenL L).map (·.1), m < 10 ^ 36
end Sp
namespace Sp
open PySem L2 DL
local macro_rules | `(tactic| walk_at "wp") => `(tactic| simp only [wSeq, wIf, wAnd, wOr, wNot, vAnd, vOr, vNot, wB, wBin, wChain, wRet, wRetN, wNext, wNever, wIfE, eF, fO, fS, wNeg, wC, wVar, oVar, wDrop, wSet, wNil, wCons, wLst, wTup, wCall, wFn, wFnP,  wTwo, wThree, wPar, wPar3, wUn, wgN, wgTup, wgCons, wgNil, wAugI, wIsN, sIsN, nonB, wXf, wRaise, wMet, tyOk, sLen, sToInt, sList, sListD, sTuple, sAdd, sInt, sInt0, sIn, sEq, sEqD, sEqX_nil, sEqX_str, sEqX_int, sEqX_bl, sEqX_non, sEqX_sL, sEqX_iL, sEqX_sT, List.isEmpty_map, flt_all, List.isEmpty_nil, List.isEmpty_cons, sIx, sCut, wCut, wNoP, wSoP, wYes, wBreak, wCont, wApp, wPopAt, wIns, wRevM, wClr, wListRg, wCutS, sMulS, wFnL3, wLend, lentD, nlSD, plSD, wNewT, wPutT, wInT, wBN, asBN, wPut, wFld, wMeth, wMake, wSetF, putD, nons, wIxD, wInD, wGet2, wNewD, wPutD, wEqO, wMin2, wMax2, wMaxLen, wRev, keyD,  wiSeq, wiTup, wiStr, wiRng1, wiRng2, wiEnum, outSlot,  view, SD.fz, Cn.fz, D.strip, asB, ownOf, keepKind, argsD, finD, finE, backD, startD, wipeD, unblk,  isi_list_lst, isi_list_tup, isi_list_str, isi_list_int, isi_list_bl, isi_list_non, isi_list_dic, isi_tup_lst, isi_tup_tup, isi_tup_str, isi_tup_int, isi_tup_bl, isi_tup_non, isi_tup_dic, isi_str_lst, isi_str_tup, isi_str_str, isi_str_int, isi_str_bl, isi_str_non, isi_str_dic,  isi_int_lst, isi_int_tup, isi_int_str, isi_int_int, isi_int_bl, isi_int_non, isi_int_dic, isi_bl_lst, isi_bl_tup, isi_bl_str, isi_bl_int, isi_bl_bl, isi_bl_non, isi_bl_dic,  eqOk_str, eqOk_int, eqOk_bl, eqOk_non, eqOk_sL, eqOk_iL, eqOk_nil, eqOk_nilT, deq_str, deq_int, deq_non, deq_sL, deq_iL, deq_sL_nil, deq_iL_nil, dmem_str, dmem_int, some_strs, some_ints, sIndex_str, sIndex_int, sJoin_str, sSum_int, sSorted_str, sSorted_int, keys_I, keys_S, valG_I, valG_S, putG_I, putG_S, encA_len, Option.isSome_map, PySem.sizeLine_eq,  List.getElem?_cons_succ, List.getElem?_cons_zero, List.getElem?_nil, List.set_cons_succ, List.set_cons_zero, List.length_cons, List.length_nil, List.length_map, List.length_append, List.map_cons, List.map_nil, List.cons_append, List.nil_append, List.replicate_succ, List.replicate_zero, List.getD_cons_succ, List.getD_cons_zero, List.lookup_cons, List.lookup_nil, nm_players_crew, nm_moments_crew, nm_tops_crew, nm_above_crew, nm_check_moment_crew, nm_with_look_crew, nm_all_looks_crew, nm_until_crew, nm_renamed_crew, nm_is_pair_crew, nm_rows_crew, nm_least_at_crew, nm_most_at_crew, nm_seen_crew, nm_folk_crew, nm_shown_crew, nm_notes_crew, nm_count_crew, nm_total_crew, nm_look_crew, nm_undo_crew, nm_copy_crew, nm_sight_crew, nm_players_seen, nm_moments_seen, nm_tops_seen, nm_above_seen, nm_check_moment_seen, nm_with_look_seen, nm_all_looks_seen, nm_until_seen, nm_renamed_seen, nm_is_pair_seen, nm_rows_seen, nm_least_at_seen, nm_most_at_seen, nm_crew_seen, nm_folk_seen, nm_shown_seen, nm_notes_seen, nm_count_seen, nm_total_seen, nm_look_seen, nm_undo_seen, nm_copy_seen, nm_sight_seen, nm_players_folk, nm_moments_folk, nm_tops_folk, nm_above_folk, nm_check_moment_folk, nm_with_look_folk, nm_all_looks_folk, nm_until_folk, nm_renamed_folk, nm_is_pair_folk, nm_rows_folk, nm_least_at_folk, nm_most_at_folk, nm_crew_folk, nm_seen_folk, nm_shown_folk, nm_notes_folk, nm_count_folk, nm_total_folk, nm_look_folk, nm_undo_folk, nm_copy_folk, nm_sight_folk, nm_players_shown, nm_moments_shown, nm_tops_shown, nm_above_shown, nm_check_moment_shown, nm_with_look_shown, nm_all_looks_shown, nm_until_shown, nm_renamed_shown, nm_is_pair_shown, nm_rows_shown, nm_least_at_shown, nm_most_at_shown, nm_crew_shown, nm_seen_shown, nm_folk_shown, nm_notes_shown, nm_count_shown, nm_total_shown, nm_look_shown, nm_undo_shown, nm_copy_shown, nm_sight_shown, nm_players_notes, nm_moments_notes, nm_tops_notes, nm_above_notes, nm_check_moment_notes, nm_with_look_notes, nm_all_looks_notes, nm_until_notes, nm_renamed_notes, nm_is_pair_notes, nm_rows_notes, nm_least_at_notes, nm_most_at_notes, nm_crew_notes, nm_seen_notes, nm_folk_notes, nm_shown_notes, nm_count_notes, nm_total_notes, nm_look_notes, nm_undo_notes, nm_copy_notes, nm_sight_notes,  Nat.reduceAdd, Nat.reduceSub, Nat.reduceLT, Nat.reduceLeDiff, Nat.reduceMul, Nat.reduceEqDiff, Nat.zero_add, Nat.add_zero, Nat.lt_add_left_iff_pos, Nat.le_add_left, Nat.zero_le, Nat.zero_lt_succ, Nat.succ_lt_succ_iff,  Cn.l.injEq, Cn.k.injEq, true_and, and_true, exists_eq', exists_eq_left', Option.some.injEq, Option.map_some, Option.map_none, Option.bind_some, Option.isSome_some, Option.isSome_none,  decide_eq_true_eq, Bool.false_eq_true, Bool.not_eq_true', Bool.not_true, Bool.not_false, Bool.not_not, Bool.true_xor, Bool.false_xor, decide_eq_false_iff_not, if_true, if_false, ite_true, ite_false, reduceIte, reduceCtorEq, decide_true, decide_false, decide_not, and_self, eq_self, ne_eq, not_true, not_false_eq_true, exists_const, and_imp, beq_self_eq_true])
local macro_rules | `(tactic| walk_at "wq") => `(tactic| try walk_at "wp")
local macro_rules | `(tactic| walk_at "w1") => `(tactic| simp only [wSeq_k, wIf, wAnd, wOr, wNot, vAnd, vOr, vNot, wB, wBin, wChain, wRet, wRetN, wNext, wNever, wIfE, eF, fO, fS, wNeg, wC, wVar, oVar, wDrop, wSet, wNil, wCons, wLst, wTup, wCall, wFn, wFnP,  wTwo, wThree, wPar, wPar3, wUn, wgN, wgTup, wgCons, wgNil, wAugI, wIsN, sIsN, nonB, wXf, wRaise, wMet, tyOk, sLen, sToInt, sList, sListD, sTuple, sAdd, sInt, sInt0, sIn, sEq, sEqD, sEqX_nil, sEqX_str, sEqX_int, sEqX_bl, sEqX_non, sEqX_sL, sEqX_iL, sEqX_sT, List.isEmpty_map, flt_all, List.isEmpty_nil, List.isEmpty_cons, sIx, sCut, wCut, wNoP, wSoP, wYes, wBreak, wCont, wApp, wPopAt, wIns, wRevM, wClr, wListRg, wCutS, sMulS, wFnL3, wLend, lentD, nlSD, plSD, wNewT, wPutT, wInT, wBN, asBN, wPut, wFld, wMeth, wMake, wSetF, putD, nons, wIxD, wInD, wGet2, wNewD, wPutD, wEqO, wMin2, wMax2, wMaxLen, wRev, keyD,  wiSeq, wiTup, wiStr, wiRng1, wiRng2, wiEnum, outSlot,  view, SD.fz, Cn.fz, D.strip, asB, ownOf, keepKind, argsD, finD, finE, backD, startD, wipeD, unblk,  isi_list_lst, isi_list_tup, isi_list_str, isi_list_int, isi_list_bl, isi_list_non, isi_list_dic, isi_tup_lst, isi_tup_tup, isi_tup_str, isi_tup_int, isi_tup_bl, isi_tup_non, isi_tup_dic, isi_str_lst, isi_str_tup, isi_str_str, isi_str_int, isi_str_bl, isi_str_non, isi_str_dic,  isi_int_lst, isi_int_tup, isi_int_str, isi_int_int, isi_int_bl, isi_int_non, isi_int_dic, isi_bl_lst, isi_bl_tup, isi_bl_str, isi_bl_int, isi_bl_bl, isi_bl_non, isi_bl_dic,  eqOk_str, eqOk_int, eqOk_bl, eqOk_non, eqOk_sL, eqOk_iL, eqOk_nil, eqOk_nilT, deq_str, deq_int, deq_non, deq_sL, deq_iL, deq_sL_nil, deq_iL_nil, dmem_str, dmem_int, some_strs, some_ints, sIndex_str, sIndex_int, sJoin_str, sSum_int, sSorted_str, sSorted_int, keys_I, keys_S, valG_I, valG_S, putG_I, putG_S, encA_len, Option.isSome_map, PySem.sizeLine_eq,  List.getElem?_cons_succ, List.getElem?_cons_zero, List.getElem?_nil, List.set_cons_succ, List.set_cons_zero, List.length_cons, List.length_nil, List.length_map, List.length_append, List.map_cons, List.map_nil, List.cons_append, List.nil_append, List.replicate_succ, List.replicate_zero, List.getD_cons_succ, List.getD_cons_zero, List.lookup_cons, List.lookup_nil, nm_players_crew, nm_moments_crew, nm_tops_crew, nm_above_crew, nm_check_moment_crew, nm_with_look_crew, nm_all_looks_crew, nm_until_crew, nm_renamed_crew, nm_is_pair_crew, nm_rows_crew, nm_least_at_crew, nm_most_at_crew, nm_seen_crew, nm_folk_crew, nm_shown_crew, nm_notes_crew, nm_count_crew, nm_total_crew, nm_look_crew, nm_undo_crew, nm_copy_crew, nm_sight_crew, nm_players_seen, nm_moments_seen, nm_tops_seen, nm_above_seen, nm_check_moment_seen, nm_with_look_seen, nm_all_looks_seen, nm_until_seen, nm_renamed_seen, nm_is_pair_seen, nm_rows_seen, nm_least_at_seen, nm_most_at_seen, nm_crew_seen, nm_folk_seen, nm_shown_seen, nm_notes_seen, nm_count_seen, nm_total_seen, nm_look_seen, nm_undo_seen, nm_copy_seen, nm_sight_seen, nm_players_folk, nm_moments_folk, nm_tops_folk, nm_above_folk, nm_check_moment_folk, nm_with_look_folk, nm_all_looks_folk, nm_until_folk, nm_renamed_folk, nm_is_pair_folk, nm_rows_folk, nm_least_at_folk, nm_most_at_folk, nm_crew_folk, nm_seen_folk, nm_shown_folk, nm_notes_folk, nm_count_folk, nm_total_folk, nm_look_folk, nm_undo_folk, nm_copy_folk, nm_sight_folk, nm_players_shown, nm_moments_shown, nm_tops_shown, nm_above_shown, nm_check_moment_shown, nm_with_look_shown, nm_all_looks_shown, nm_until_shown, nm_renamed_shown, nm_is_pair_shown, nm_rows_shown, nm_least_at_shown, nm_most_at_shown, nm_crew_shown, nm_seen_shown, nm_folk_shown, nm_notes_shown, nm_count_shown, nm_total_shown, nm_look_shown, nm_undo_shown, nm_copy_shown, nm_sight_shown, nm_players_notes, nm_moments_notes, nm_tops_notes, nm_above_notes, nm_check_moment_notes, nm_with_look_notes, nm_all_looks_notes, nm_until_notes, nm_renamed_notes, nm_is_pair_notes, nm_rows_notes, nm_least_at_notes, nm_most_at_notes, nm_crew_notes, nm_seen_notes, nm_folk_notes, nm_shown_notes, nm_count_notes, nm_total_notes, nm_look_notes, nm_undo_notes, nm_copy_notes, nm_sight_notes,  Nat.reduceAdd, Nat.reduceSub, Nat.reduceLT, Nat.reduceLeDiff, Nat.reduceMul, Nat.reduceEqDiff, Nat.zero_add, Nat.add_zero, Nat.lt_add_left_iff_pos, Nat.le_add_left, Nat.zero_le, Nat.zero_lt_succ, Nat.succ_lt_succ_iff,  Cn.l.injEq, Cn.k.injEq, true_and, and_true, exists_eq', exists_eq_left', Option.some.injEq, Option.map_some, Option.map_none, Option.bind_some, Option.isSome_some, Option.isSome_none,  decide_eq_true_eq, Bool.false_eq_true, Bool.not_eq_true', Bool.not_true, Bool.not_false, Bool.not_not, Bool.true_xor, Bool.false_xor, decide_eq_false_iff_not, if_true, if_false, ite_true, ite_false, reduceIte, reduceCtorEq, decide_true, decide_false, decide_not, and_self, eq_self, ne_eq, not_true, not_false_eq_true, exists_const, and_imp, beq_self_eq_true])
local macro_rules | `(tactic| walk_at "ws") => `(tactic| repeat (first | refine kont_intro ?_ | walk_at "w1"))
structure Sm (s : Sg) : Prop where
  crew : s.crew.length ≤ 100
  seen : s.seen.length ≤ 200
theorem Sm.mom {s : Sg} (h : Sm s) : s.moments.length ≤ 200 := by
  unfold Sg.moments
  rw [isort_len, List.length_map]
  exact h.seen
theorem mem_mom {s : Sg} {m : Int} : m ∈ s.moments ↔ s.has m = true := by
  unfold Sg.moments Sg.has
  rw [isort_mem, decide_eq_true_eq]
def ds_check_sight (K : PySem.W.Frag) : DSp := fun α Q _ => ∃ s : Sg, α = [some (.d (s.d K))] ∧ Q (.d .non) α
theorem len_check_sight (K : PySem.W.Frag) (α : Dl) (Q : SD → Dl → Prop) (E : XQ) (h : ds_check_sight K α Q E) : α.length = 1 ∧ ∀ (i : Nat) (c : Cn), α[i]? ≠ some (some (.o c)) := by
  obtain ⟨s, rfl, _⟩ := h
  exact lenOf rfl rfl
theorem law_check_sight (K : PySem.W.Frag) (ki_Sight : SelfIsi K "Sight") (α : Dl) (Q : SD → Dl → Prop) (E : XQ) (h : ds_check_sight K α Q E) : ws_check_sight (ad K "Sight") (ad K "InvalidSight") K { nx := finD α Q (.d .non), rt := finD α Q } (finE α E) (startD N_check_sight α) := by
  obtain ⟨s, rfl, hq⟩ := h
  unfold ws_check_sight wIsiC
  walk_at "wp"
  refine ⟨true, ki_Sight, fun C' e => by cases e; rfl, ?_⟩
  walk_at "wp"
  exact hq
def Sg.steps (s : Sg) : List Int := s.moments.drop 1
def ds_steps_of (K : PySem.W.Frag) : DSp := fun α Q _ => ∃ s : Sg, α = [some (.d (s.d K))] ∧ Q (.o (.l (s.steps.map .int))) α
theorem len_steps_of (K : PySem.W.Frag) (α : Dl) (Q : SD → Dl → Prop) (E : XQ) (h : ds_steps_of K α Q E) : α.length = 1 ∧ ∀ (i : Nat) (c : Cn), α[i]? ≠ some (some (.o c)) := by
  obtain ⟨s, rfl, _⟩ := h
  exact lenOf rfl rfl
theorem law_steps_of (K : PySem.W.Frag) (α : Dl) (Q : SD → Dl → Prop) (E : XQ) (h : ds_steps_of K α Q E) : ws_steps_of (ds_Sight_moments K) (ad K "Sight") { nx := finD α Q (.d .non), rt := finD α Q } (finE α E) (startD N_steps_of α) := by
  obtain ⟨s, rfl, hq⟩ := h
  unfold ws_steps_of
  walk_at "wp"
  refine ⟨s, rfl, ?_⟩
  walk_at "wp"
  rw [cut_from _ (by decide), ← List.map_drop]
  exact hq
def kab (t : List Str) (a b : Str) : Bool := decide (knownAbove t a b = some true)
def Sg.passed (s : Sg) (p : Str) (e : Int) : List Str := s.crew.filter fun x => decide (x ≠ p) && kab (s.tops e) p x
def Sg.foundAt (s : Sg) (p : Str) (e b : Int) : List Str := (s.passed p e).filter fun x => kab (s.tops b) x p
def Sg.begins (s : Sg) (p : Str) (e : Int) : Option (Int × List Str) := ((s.moments.filter fun m => decide (m < e)).reverse).findSome? fun b => if s.foundAt p e b = [] then none else some (b, s.foundAt p e b)
def encB : Option (Int × List Str) → D
  | none => .tup [.non, .lst []]
  | some (b, l) => .tup [.int b, sL l]
def ds_begins_before (K : PySem.W.Frag) : DSp := fun α Q _ => ∃ (s : Sg) (p : Str) (e : Int), α = [some (.d (s.d K)), some (.d (.str p)), some (.d (.int e))] ∧ Sm s ∧ s.has e = true ∧ Q (.d (encB (s.begins p e))) α
theorem len_begins_before (K : PySem.W.Frag) (α : Dl) (Q : SD → Dl → Prop) (E : XQ) (h : ds_begins_before K α Q E) : α.length = 3 ∧ ∀ (i : Nat) (c : Cn), α[i]? ≠ some (some (.o c)) := by
  obtain ⟨s, p, e, rfl, _⟩ := h
  exact lenOf rfl rfl
theorem use_tops {K : PySem.W.Frag} {s : Sg} {m : Int} {Q : SD → Dl → Prop} {E : XQ} (h : s.has m = true) (q : Q (.o (.l ((s.tops m).map .str))) [some (.d (s.d K)), some (.d (.int m))]) : ds_Sight_tops K [some (.d (s.d K)), some (.d (.int m))] Q E :=
  ⟨s, .int m, rfl, rfl, (fun h => by cases h), fun m' e => by cases e; rw [h]; exact q⟩
theorem law_begins_before (K : PySem.W.Frag) (α : Dl) (Q : SD → Dl → Prop) (E : XQ) (h : ds_begins_before K α Q E) : ws_begins_before (ds_Sight_players K) (ad K "Sight") ds_known_above (ds_Sight_tops K) (ds_Sight_moments K) { nx := finD α Q (.d .non), rt := finD α Q } (finE α E) (startD N_begins_before α) := by
  obtain ⟨s, p, e, rfl, sm, he, hq⟩ := h
  unfold ws_begins_before ws_begins_before_t1
  walk_at "wp"
  have cl := sm.crew
  have ml := sm.mom
  refine lc_filter s.crew .str (fun x => decide (x ≠ p) && kab (s.tops e) p x) (fun Q h => by walk_at "wp"; exact ⟨s, rfl, by walk_at "wp"; exact h⟩) (by omega) (okW_of rfl) (fun y hy R S hR hS => ?_) ?_
  · walk_at "wp"
    by_cases c : y = p
    · simp only [c, not_true_eq_false, if_false]
      exact hS (by simp [c])
    · simp only [c, not_false_eq_true, if_true]
      refine use_tops he ?_
      walk_at "wp"
      refine ⟨s.tops e, p, y, rfl, ?_⟩
      have k : kab (s.tops e) p y = decide (knownAbove (s.tops e) p y = some true) := rfl
      cases ek : knownAbove (s.tops e) p y with
      | none =>
        unfold optB
        walk_at "wp"
        exact hS (by rw [k, ek]; simp)
      | some b =>
        unfold optB
        walk_at "wp"
        cases b with
        | true =>
          simp only [if_true]
          exact hR (by rw [k, ek]; simp [c])
        | false =>
          simp only [Bool.false_eq_true, if_false]
          exact hS (by rw [k, ek]; simp)
  · walk_at "wp"
    refine lc_filter s.moments .int (fun m => decide (m < e)) (fun Q h => by walk_at "wp"; exact ⟨s, rfl, by walk_at "wp"; exact h⟩) (by omega) (okW_of rfl) (fun y hy R S hR hS => ?_) ?_
    · walk_at "wp"
      by_cases c : y < e
      · simp only [c, if_true]
        exact hR (decide_eq_true c)
      · simp only [c, if_false]
        exact hS (decide_eq_false c)
    · walk_at "wp"
      unfold ws_begins_before_t2
      walk_at "wp"
      have ep : (s.crew.filter fun x => !decide (x = p) && kab (s.tops e) p x) = s.passed p e := by
        unfold Sg.passed
        congr 1
        funext x
        simp
      rw [ep]
      have hb : ∀ b ∈ (s.moments.filter fun m => decide (m < e)).reverse, s.has b = true := fun b h => mem_mom.mp (List.mem_filter.mp (List.mem_reverse.mp h)).1
      have eq1 : s.begins p e = ((s.moments.filter fun m => decide (m < e)).reverse).findSome? fun b => if s.foundAt p e b = [] then none else some (b, s.foundAt p e b) := rfl
      generalize hbs : (s.moments.filter fun m => decide (m < e)).reverse = bs at hb eq1
      have pl : (s.passed p e).length ≤ 100 := Nat.le_trans (List.length_filter_le _ _) cl
      refine for_map bs .int (fun pre δ => (∀ b ∈ pre, s.foundAt p e b = []) ∧ ∃ sd r7 r8 r9, OrdS (s.passed p e) sd ∧ δ = [some (.d (s.d K)), some (.d (.str p)), some (.d (.int e)), sd, none, some (.o (.l ((s.moments.filter fun m => decide (m < e)).map .int))), none, r7, r8, r9]) (fun Q h => by
          walk_at "wp"
          rw [← List.map_reverse, hbs]
          exact h) ⟨(fun b h => (nomatch h)), _, none, none, none, .inr rfl, rfl⟩ ?_ ?_
      · rintro pre b post δ' ex ⟨hpre, sd, r7, r8, r9, os, rfl⟩
        have hbm := hb b (by rw [ex]; simp)
        unfold ws_begins_before_b1
        walk_at "wp"
        refine use_tops hbm ?_
        refine lc_filterI (fun δ => ∃ s8, OrdS (s.tops b) s8 ∧ δ = [some (.d (s.d K)), some (.d (.str p)), some (.d (.int e)), some (.d (sL (s.passed p e))), none, some (.o (.l ((s.moments.filter fun m => decide (m < e)).map .int))), none, some (.d (.int b)), s8, r9]) (s.passed p e) .str (fun x => kab (s.tops b) x p) (fun Q h => ?_) (by omega) (fun δ ⟨s8, h8, e8⟩ => by subst e8; exact okW_of rfl) ?_ ?_
        · rcases os with rfl | rfl
          · walk_at "wp"
            exact h _ ⟨_, .inr rfl, rfl⟩
          · walk_at "wp"
            exact h _ ⟨_, .inr rfl, rfl⟩
        · rintro δ1 ⟨s8, h8, rfl⟩ y hy R S hR hS
          have k : kab (s.tops b) y p = decide (knownAbove (s.tops b) y p = some true) := rfl
          rcases h8 with rfl | rfl
          all_goals
            walk_at "wp"
            refine ⟨s.tops b, y, p, rfl, ?_⟩
            cases ek : knownAbove (s.tops b) y p with
            | none =>
              unfold optB
              walk_at "wp"
              exact hS _ ⟨_, .inl rfl, rfl⟩ (by rw [k, ek]; simp)
            | some v =>
              unfold optB
              walk_at "wp"
              cases v with
              | true =>
                simp only [if_true]
                exact hR _ ⟨_, .inl rfl, rfl⟩ (by rw [k, ek]; simp)
              | false =>
                simp only [Bool.false_eq_true, if_false]
                exact hS _ ⟨_, .inl rfl, rfl⟩ (by rw [k, ek]; simp)
        · rintro δ1 ⟨s8, h8, rfl⟩
          walk_at "wp"
          have ef : ((s.passed p e).filter fun x => kab (s.tops b) x p) = s.foundAt p e b := rfl
          rw [ef]
          by_cases c : s.foundAt p e b = []
          · rw [c]
            refine ⟨fun b1 h1 => ?_, _, _, _, _, .inl rfl, rfl⟩
            rcases List.mem_append.mp h1 with h1 | h1
            · exact hpre b1 h1
            · rw [List.mem_singleton.mp h1]; exact c
          · have ne : (s.foundAt p e b).isEmpty = false := by
              cases q : s.foundAt p e b with
              | nil => exact absurd q c
              | cons x r => rfl
            rw [ne]
            have eb : s.begins p e = some (b, s.foundAt p e b) := by
              rw [eq1, ex, List.findSome?_append, List.findSome?_eq_none_iff.mpr (fun b1 h1 => by rw [if_pos (hpre b1 h1)]), List.findSome?_cons, if_neg c]
              rfl
            rw [eb] at hq
            exact hq
      · rintro δ' ⟨hpre, sd, r7, r8, r9, os, rfl⟩
        unfold ws_begins_before_t3
        walk_at "wp"
        have en : s.begins p e = none := by
          rw [eq1, List.findSome?_eq_none_iff]
          intro b hb2
          rw [if_pos (hpre b hb2)]
        rw [en] at hq
        exact hq
abbrev St3 := Int × Int × Str
abbrev encS (x : St3) : D := .tup [.int x.1, .int x.2.1, .str x.2.2]
def leastStep (s : Sg) (p : Str) (a : List St3 × Option Int) (e : Int) : List St3 × Option Int := match s.begins p e with
  | none => a
  | some (b, l) => if a.2.all (fun z => decide (z < b)) then (a.1 ++ (ssort l).map (fun o => (b, e, o)), some b) else a
def Sg.least (s : Sg) (p : Str) : List St3 := (s.steps.foldl (leastStep s p) ([], none)).1
def optI : Option Int → D
  | none => .non
  | some i => .int i
theorem begins_len {s : Sg} {p : Str} {e b : Int} {l : List Str} (h : s.begins p e = some (b, l)) : l.length ≤ s.crew.length := by
  obtain ⟨b', _, hb⟩ := List.exists_of_findSome?_eq_some h
  by_cases c : s.foundAt p e b' = []
  · rw [if_pos c] at hb; cases hb
  · rw [if_neg c] at hb
    cases hb
    exact Nat.le_trans (List.length_filter_le _ _) (List.length_filter_le _ _)
theorem least_len {s : Sg} {p : Str} : ∀ (es : List Int) (a : List St3 × Option Int), (es.foldl (leastStep s p) a).1.length ≤ a.1.length + s.crew.length * es.length
  | [], a => by simp
  | e :: es, a => by
    rw [List.foldl_cons]
    have h1 := least_len (s := s) (p := p) es (leastStep s p a e)
    have h2 : (leastStep s p a e).1.length ≤ a.1.length + s.crew.length := by
      unfold leastStep
      split
      · omega
      · rename_i b l hb
        split
        · rw [List.length_append, List.length_map, ssort_len]
          have := begins_len hb
          omega
        · omega
    rw [List.length_cons, Nat.mul_succ]
    omega
def apartStep (acc : List St3) (x : St3) : List St3 := if acc = [] ∨ (∃ y, acc.getLast? = some y ∧ y.2.1 ≤ x.1) then acc ++ [x] else acc
def Sg.apart (s : Sg) (p : Str) : List St3 := (s.least p).foldl apartStep []
theorem Sm.least {s : Sg} (sm : Sm s) (p : Str) : (s.least p).length ≤ 20000 := by
  have al := least_len (s := s) (p := p) s.steps ([], none)
  have h1 : s.steps.length ≤ 200 := by have := sm.mom; unfold Sg.steps; rw [List.length_drop]; omega
  have := Nat.mul_le_mul sm.crew h1
  refine Nat.le_trans al ?_
  simp only [List.length_nil]
  omega
end Sp
namespace Sp
open PySem L2 DL
local macro_rules | `(tactic| walk_at "wp") => `(tactic| simp only [wSeq, wIf, wAnd, wOr, wNot, vAnd, vOr, vNot, wB, wBin, wChain, wRet, wRetN, wNext, wNever, wIfE, eF, fO, fS, wNeg, wC, wVar, oVar, wDrop, wSet, wNil, wCons, wLst, wTup, wCall, wFn, wFnP,  wTwo, wThree, wPar, wPar3, wUn, wgN, wgTup, wgCons, wgNil, wAugI, wIsN, sIsN, nonB, wXf, wRaise, wMet, tyOk, sLen, sToInt, sList, sListD, sTuple, sAdd, sInt, sInt0, sIn, sEq, sEqD, sEqX_nil, sEqX_str, sEqX_int, sEqX_bl, sEqX_non, sEqX_sL, sEqX_iL, sEqX_sT, List.isEmpty_map, flt_all, List.isEmpty_nil, List.isEmpty_cons, sIx, sCut, wCut, wNoP, wSoP, wYes, wBreak, wCont, wApp, wPopAt, wIns, wRevM, wClr, wListRg, wCutS, sMulS, wFnL3, wLend, lentD, nlSD, plSD, wNewT, wPutT, wInT, wBN, asBN, wPut, wFld, wMeth, wMake, wSetF, putD, nons, wIxD, wInD, wGet2, wNewD, wPutD, wEqO, wMin2, wMax2, wMaxLen, wRev, keyD,  wiSeq, wiTup, wiStr, wiRng1, wiRng2, wiEnum, outSlot,  view, SD.fz, Cn.fz, D.strip, asB, ownOf, keepKind, argsD, finD, finE, backD, startD, wipeD, unblk,  isi_list_lst, isi_list_tup, isi_list_str, isi_list_int, isi_list_bl, isi_list_non, isi_list_dic, isi_tup_lst, isi_tup_tup, isi_tup_str, isi_tup_int, isi_tup_bl, isi_tup_non, isi_tup_dic, isi_str_lst, isi_str_tup, isi_str_str, isi_str_int, isi_str_bl, isi_str_non, isi_str_dic,  isi_int_lst, isi_int_tup, isi_int_str, isi_int_int, isi_int_bl, isi_int_non, isi_int_dic, isi_bl_lst, isi_bl_tup, isi_bl_str, isi_bl_int, isi_bl_bl, isi_bl_non, isi_bl_dic,  eqOk_str, eqOk_int, eqOk_bl, eqOk_non, eqOk_sL, eqOk_iL, eqOk_nil, eqOk_nilT, deq_str, deq_int, deq_non, deq_sL, deq_iL, deq_sL_nil, deq_iL_nil, dmem_str, dmem_int, some_strs, some_ints, sIndex_str, sIndex_int, sJoin_str, sSum_int, sSorted_str, sSorted_int, keys_I, keys_S, valG_I, valG_S, putG_I, putG_S, encA_len, Option.isSome_map, PySem.sizeLine_eq,  List.getElem?_cons_succ, List.getElem?_cons_zero, List.getElem?_nil, List.set_cons_succ, List.set_cons_zero, List.length_cons, List.length_nil, List.length_map, List.length_append, List.map_cons, List.map_nil, List.cons_append, List.nil_append, List.replicate_succ, List.replicate_zero, List.getD_cons_succ, List.getD_cons_zero, List.lookup_cons, List.lookup_nil, nm_players_crew, nm_moments_crew, nm_tops_crew, nm_above_crew, nm_check_moment_crew, nm_with_look_crew, nm_all_looks_crew, nm_until_crew, nm_renamed_crew, nm_is_pair_crew, nm_rows_crew, nm_least_at_crew, nm_most_at_crew, nm_seen_crew, nm_folk_crew, nm_shown_crew, nm_notes_crew, nm_count_crew, nm_total_crew, nm_look_crew, nm_undo_crew, nm_copy_crew, nm_sight_crew, nm_players_seen, nm_moments_seen, nm_tops_seen, nm_above_seen, nm_check_moment_seen, nm_with_look_seen, nm_all_looks_seen, nm_until_seen, nm_renamed_seen, nm_is_pair_seen, nm_rows_seen, nm_least_at_seen, nm_most_at_seen, nm_crew_seen, nm_folk_seen, nm_shown_seen, nm_notes_seen, nm_count_seen, nm_total_seen, nm_look_seen, nm_undo_seen, nm_copy_seen, nm_sight_seen, nm_players_folk, nm_moments_folk, nm_tops_folk, nm_above_folk, nm_check_moment_folk, nm_with_look_folk, nm_all_looks_folk, nm_until_folk, nm_renamed_folk, nm_is_pair_folk, nm_rows_folk, nm_least_at_folk, nm_most_at_folk, nm_crew_folk, nm_seen_folk, nm_shown_folk, nm_notes_folk, nm_count_folk, nm_total_folk, nm_look_folk, nm_undo_folk, nm_copy_folk, nm_sight_folk, nm_players_shown, nm_moments_shown, nm_tops_shown, nm_above_shown, nm_check_moment_shown, nm_with_look_shown, nm_all_looks_shown, nm_until_shown, nm_renamed_shown, nm_is_pair_shown, nm_rows_shown, nm_least_at_shown, nm_most_at_shown, nm_crew_shown, nm_seen_shown, nm_folk_shown, nm_notes_shown, nm_count_shown, nm_total_shown, nm_look_shown, nm_undo_shown, nm_copy_shown, nm_sight_shown, nm_players_notes, nm_moments_notes, nm_tops_notes, nm_above_notes, nm_check_moment_notes, nm_with_look_notes, nm_all_looks_notes, nm_until_notes, nm_renamed_notes, nm_is_pair_notes, nm_rows_notes, nm_least_at_notes, nm_most_at_notes, nm_crew_notes, nm_seen_notes, nm_folk_notes, nm_shown_notes, nm_count_notes, nm_total_notes, nm_look_notes, nm_undo_notes, nm_copy_notes, nm_sight_notes,  Nat.reduceAdd, Nat.reduceSub, Nat.reduceLT, Nat.reduceLeDiff, Nat.reduceMul, Nat.reduceEqDiff, Nat.zero_add, Nat.add_zero, Nat.lt_add_left_iff_pos, Nat.le_add_left, Nat.zero_le, Nat.zero_lt_succ, Nat.succ_lt_succ_iff,  Cn.l.injEq, Cn.k.injEq, true_and, and_true, exists_eq', exists_eq_left', Option.some.injEq, Option.map_some, Option.map_none, Option.bind_some, Option.isSome_some, Option.isSome_none,  decide_eq_true_eq, Bool.false_eq_true, Bool.not_eq_true', Bool.not_true, Bool.not_false, Bool.not_not, Bool.true_xor, Bool.false_xor, decide_eq_false_iff_not, if_true, if_false, ite_true, ite_false, reduceIte, reduceCtorEq, decide_true, decide_false, decide_not, and_self, eq_self, ne_eq, not_true, not_false_eq_true, exists_const, and_imp, beq_self_eq_true])
local macro_rules | `(tactic| walk_at "wq") => `(tactic| try walk_at "wp")
local macro_rules | `(tactic| walk_at "w1") => `(tactic| simp only [wSeq_k, wIf, wAnd, wOr, wNot, vAnd, vOr, vNot, wB, wBin, wChain, wRet, wRetN, wNext, wNever, wIfE, eF, fO, fS, wNeg, wC, wVar, oVar, wDrop, wSet, wNil, wCons, wLst, wTup, wCall, wFn, wFnP,  wTwo, wThree, wPar, wPar3, wUn, wgN, wgTup, wgCons, wgNil, wAugI, wIsN, sIsN, nonB, wXf, wRaise, wMet, tyOk, sLen, sToInt, sList, sListD, sTuple, sAdd, sInt, sInt0, sIn, sEq, sEqD, sEqX_nil, sEqX_str, sEqX_int, sEqX_bl, sEqX_non, sEqX_sL, sEqX_iL, sEqX_sT, List.isEmpty_map, flt_all, List.isEmpty_nil, List.isEmpty_cons, sIx, sCut, wCut, wNoP, wSoP, wYes, wBreak, wCont, wApp, wPopAt, wIns, wRevM, wClr, wListRg, wCutS, sMulS, wFnL3, wLend, lentD, nlSD, plSD, wNewT, wPutT, wInT, wBN, asBN, wPut, wFld, wMeth, wMake, wSetF, putD, nons, wIxD, wInD, wGet2, wNewD, wPutD, wEqO, wMin2, wMax2, wMaxLen, wRev, keyD,  wiSeq, wiTup, wiStr, wiRng1, wiRng2, wiEnum, outSlot,  view, SD.fz, Cn.fz, D.strip, asB, ownOf, keepKind, argsD, finD, finE, backD, startD, wipeD, unblk,  isi_list_lst, isi_list_tup, isi_list_str, isi_list_int, isi_list_bl, isi_list_non, isi_list_dic, isi_tup_lst, isi_tup_tup, isi_tup_str, isi_tup_int, isi_tup_bl, isi_tup_non, isi_tup_dic, isi_str_lst, isi_str_tup, isi_str_str, isi_str_int, isi_str_bl, isi_str_non, isi_str_dic,  isi_int_lst, isi_int_tup, isi_int_str, isi_int_int, isi_int_bl, isi_int_non, isi_int_dic, isi_bl_lst, isi_bl_tup, isi_bl_str, isi_bl_int, isi_bl_bl, isi_bl_non, isi_bl_dic,  eqOk_str, eqOk_int, eqOk_bl, eqOk_non, eqOk_sL, eqOk_iL, eqOk_nil, eqOk_nilT, deq_str, deq_int, deq_non, deq_sL, deq_iL, deq_sL_nil, deq_iL_nil, dmem_str, dmem_int, some_strs, some_ints, sIndex_str, sIndex_int, sJoin_str, sSum_int, sSorted_str, sSorted_int, keys_I, keys_S, valG_I, valG_S, putG_I, putG_S, encA_len, Option.isSome_map, PySem.sizeLine_eq,  List.getElem?_cons_succ, List.getElem?_cons_zero, List.getElem?_nil, List.set_cons_succ, List.set_cons_zero, List.length_cons, List.length_nil, List.length_map, List.length_append, List.map_cons, List.map_nil, List.cons_append, List.nil_append, List.replicate_succ, List.replicate_zero, List.getD_cons_succ, List.getD_cons_zero, List.lookup_cons, List.lookup_nil, nm_players_crew, nm_moments_crew, nm_tops_crew, nm_above_crew, nm_check_moment_crew, nm_with_look_crew, nm_all_looks_crew, nm_until_crew, nm_renamed_crew, nm_is_pair_crew, nm_rows_crew, nm_least_at_crew, nm_most_at_crew, nm_seen_crew, nm_folk_crew, nm_shown_crew, nm_notes_crew, nm_count_crew, nm_total_crew, nm_look_crew, nm_undo_crew, nm_copy_crew, nm_sight_crew, nm_players_seen, nm_moments_seen, nm_tops_seen, nm_above_seen, nm_check_moment_seen, nm_with_look_seen, nm_all_looks_seen, nm_until_seen, nm_renamed_seen, nm_is_pair_seen, nm_rows_seen, nm_least_at_seen, nm_most_at_seen, nm_crew_seen, nm_folk_seen, nm_shown_seen, nm_notes_seen, nm_count_seen, nm_total_seen, nm_look_seen, nm_undo_seen, nm_copy_seen, nm_sight_seen, nm_players_folk, nm_moments_folk, nm_tops_folk, nm_above_folk, nm_check_moment_folk, nm_with_look_folk, nm_all_looks_folk, nm_until_folk, nm_renamed_folk, nm_is_pair_folk, nm_rows_folk, nm_least_at_folk, nm_most_at_folk, nm_crew_folk, nm_seen_folk, nm_shown_folk, nm_notes_folk, nm_count_folk, nm_total_folk, nm_look_folk, nm_undo_folk, nm_copy_folk, nm_sight_folk, nm_players_shown, nm_moments_shown, nm_tops_shown, nm_above_shown, nm_check_moment_shown, nm_with_look_shown, nm_all_looks_shown, nm_until_shown, nm_renamed_shown, nm_is_pair_shown, nm_rows_shown, nm_least_at_shown, nm_most_at_shown, nm_crew_shown, nm_seen_shown, nm_folk_shown, nm_notes_shown, nm_count_shown, nm_total_shown, nm_look_shown, nm_undo_shown, nm_copy_shown, nm_sight_shown, nm_players_notes, nm_moments_notes, nm_tops_notes, nm_above_notes, nm_check_moment_notes, nm_with_look_notes, nm_all_looks_notes, nm_until_notes, nm_renamed_notes, nm_is_pair_notes, nm_rows_notes, nm_least_at_notes, nm_most_at_notes, nm_crew_notes, nm_seen_notes, nm_folk_notes, nm_shown_notes, nm_count_notes, nm_total_notes, nm_look_notes, nm_undo_notes, nm_copy_notes, nm_sight_notes,  Nat.reduceAdd, Nat.reduceSub, Nat.reduceLT, Nat.reduceLeDiff, Nat.reduceMul, Nat.reduceEqDiff, Nat.zero_add, Nat.add_zero, Nat.lt_add_left_iff_pos, Nat.le_add_left, Nat.zero_le, Nat.zero_lt_succ, Nat.succ_lt_succ_iff,  Cn.l.injEq, Cn.k.injEq, true_and, and_true, exists_eq', exists_eq_left', Option.some.injEq, Option.map_some, Option.map_none, Option.bind_some, Option.isSome_some, Option.isSome_none,  decide_eq_true_eq, Bool.false_eq_true, Bool.not_eq_true', Bool.not_true, Bool.not_false, Bool.not_not, Bool.true_xor, Bool.false_xor, decide_eq_false_iff_not, if_true, if_false, ite_true, ite_false, reduceIte, reduceCtorEq, decide_true, decide_false, decide_not, and_self, eq_self, ne_eq, not_true, not_false_eq_true, exists_const, and_imp, beq_self_eq_true])
local macro_rules | `(tactic| walk_at "ws") => `(tactic| repeat (first | refine kont_intro ?_ | walk_at "w1"))
def behind (ps t : List Str) (k : Nat) : List Str := t.drop (k + 1) ++ ps.filter fun x => !decide (x ∈ t)
def Known (ps t : List Str) (n : Nat) (a b : Str) : Prop := ∃ k < n, t[k]? = some a ∧ b ∈ behind ps t k
end Sp
namespace Sp
open PySem L2 DL
local macro_rules | `(tactic| walk_at "wp") => `(tactic| simp only [wSeq, wIf, wAnd, wOr, wNot, vAnd, vOr, vNot, wB, wBin, wChain, wRet, wRetN, wNext, wNever, wIfE, eF, fO, fS, wNeg, wC, wVar, oVar, wDrop, wSet, wNil, wCons, wLst, wTup, wCall, wFn, wFnP,  wTwo, wThree, wPar, wPar3, wUn, wgN, wgTup, wgCons, wgNil, wAugI, wIsN, sIsN, nonB, wXf, wRaise, wMet, tyOk, sLen, sToInt, sList, sListD, sTuple, sAdd, sInt, sInt0, sIn, sEq, sEqD, sEqX_nil, sEqX_str, sEqX_int, sEqX_bl, sEqX_non, sEqX_sL, sEqX_iL, sEqX_sT, List.isEmpty_map, flt_all, List.isEmpty_nil, List.isEmpty_cons, sIx, sCut, wCut, wNoP, wSoP, wYes, wBreak, wCont, wApp, wPopAt, wIns, wRevM, wClr, wListRg, wCutS, sMulS, wFnL3, wLend, lentD, nlSD, plSD, wNewT, wPutT, wInT, wBN, asBN, wPut, wFld, wMeth, wMake, wSetF, putD, nons, wIxD, wInD, wGet2, wNewD, wPutD, wEqO, wMin2, wMax2, wMaxLen, wRev, keyD,  wiSeq, wiTup, wiStr, wiRng1, wiRng2, wiEnum, outSlot,  view, SD.fz, Cn.fz, D.strip, asB, ownOf, keepKind, argsD, finD, finE, backD, startD, wipeD, unblk,  isi_list_lst, isi_list_tup, isi_list_str, isi_list_int, isi_list_bl, isi_list_non, isi_list_dic, isi_tup_lst, isi_tup_tup, isi_tup_str, isi_tup_int, isi_tup_bl, isi_tup_non, isi_tup_dic, isi_str_lst, isi_str_tup, isi_str_str, isi_str_int, isi_str_bl, isi_str_non, isi_str_dic,  isi_int_lst, isi_int_tup, isi_int_str, isi_int_int, isi_int_bl, isi_int_non, isi_int_dic, isi_bl_lst, isi_bl_tup, isi_bl_str, isi_bl_int, isi_bl_bl, isi_bl_non, isi_bl_dic,  eqOk_str, eqOk_int, eqOk_bl, eqOk_non, eqOk_sL, eqOk_iL, eqOk_nil, eqOk_nilT, deq_str, deq_int, deq_non, deq_sL, deq_iL, deq_sL_nil, deq_iL_nil, dmem_str, dmem_int, some_strs, some_ints, sIndex_str, sIndex_int, sJoin_str, sSum_int, sSorted_str, sSorted_int, keys_I, keys_S, valG_I, valG_S, putG_I, putG_S, encA_len, Option.isSome_map, PySem.sizeLine_eq,  List.getElem?_cons_succ, List.getElem?_cons_zero, List.getElem?_nil, List.set_cons_succ, List.set_cons_zero, List.length_cons, List.length_nil, List.length_map, List.length_append, List.map_cons, List.map_nil, List.cons_append, List.nil_append, List.replicate_succ, List.replicate_zero, List.getD_cons_succ, List.getD_cons_zero, List.lookup_cons, List.lookup_nil, nm_players_crew, nm_moments_crew, nm_tops_crew, nm_above_crew, nm_check_moment_crew, nm_with_look_crew, nm_all_looks_crew, nm_until_crew, nm_renamed_crew, nm_is_pair_crew, nm_rows_crew, nm_least_at_crew, nm_most_at_crew, nm_seen_crew, nm_folk_crew, nm_shown_crew, nm_notes_crew, nm_count_crew, nm_total_crew, nm_look_crew, nm_undo_crew, nm_copy_crew, nm_sight_crew, nm_players_seen, nm_moments_seen, nm_tops_seen, nm_above_seen, nm_check_moment_seen, nm_with_look_seen, nm_all_looks_seen, nm_until_seen, nm_renamed_seen, nm_is_pair_seen, nm_rows_seen, nm_least_at_seen, nm_most_at_seen, nm_crew_seen, nm_folk_seen, nm_shown_seen, nm_notes_seen, nm_count_seen, nm_total_seen, nm_look_seen, nm_undo_seen, nm_copy_seen, nm_sight_seen, nm_players_folk, nm_moments_folk, nm_tops_folk, nm_above_folk, nm_check_moment_folk, nm_with_look_folk, nm_all_looks_folk, nm_until_folk, nm_renamed_folk, nm_is_pair_folk, nm_rows_folk, nm_least_at_folk, nm_most_at_folk, nm_crew_folk, nm_seen_folk, nm_shown_folk, nm_notes_folk, nm_count_folk, nm_total_folk, nm_look_folk, nm_undo_folk, nm_copy_folk, nm_sight_folk, nm_players_shown, nm_moments_shown, nm_tops_shown, nm_above_shown, nm_check_moment_shown, nm_with_look_shown, nm_all_looks_shown, nm_until_shown, nm_renamed_shown, nm_is_pair_shown, nm_rows_shown, nm_least_at_shown, nm_most_at_shown, nm_crew_shown, nm_seen_shown, nm_folk_shown, nm_notes_shown, nm_count_shown, nm_total_shown, nm_look_shown, nm_undo_shown, nm_copy_shown, nm_sight_shown, nm_players_notes, nm_moments_notes, nm_tops_notes, nm_above_notes, nm_check_moment_notes, nm_with_look_notes, nm_all_looks_notes, nm_until_notes, nm_renamed_notes, nm_is_pair_notes, nm_rows_notes, nm_least_at_notes, nm_most_at_notes, nm_crew_notes, nm_seen_notes, nm_folk_notes, nm_shown_notes, nm_count_notes, nm_total_notes, nm_look_notes, nm_undo_notes, nm_copy_notes, nm_sight_notes,  Nat.reduceAdd, Nat.reduceSub, Nat.reduceLT, Nat.reduceLeDiff, Nat.reduceMul, Nat.reduceEqDiff, Nat.zero_add, Nat.add_zero, Nat.lt_add_left_iff_pos, Nat.le_add_left, Nat.zero_le, Nat.zero_lt_succ, Nat.succ_lt_succ_iff,  Cn.l.injEq, Cn.k.injEq, true_and, and_true, exists_eq', exists_eq_left', Option.some.injEq, Option.map_some, Option.map_none, Option.bind_some, Option.isSome_some, Option.isSome_none,  decide_eq_true_eq, Bool.false_eq_true, Bool.not_eq_true', Bool.not_true, Bool.not_false, Bool.not_not, Bool.true_xor, Bool.false_xor, decide_eq_false_iff_not, if_true, if_false, ite_true, ite_false, reduceIte, reduceCtorEq, decide_true, decide_false, decide_not, and_self, eq_self, ne_eq, not_true, not_false_eq_true, exists_const, and_imp, beq_self_eq_true])
local macro_rules | `(tactic| walk_at "wq") => `(tactic| try walk_at "wp")
local macro_rules | `(tactic| walk_at "w1") => `(tactic| simp only [wSeq_k, wIf, wAnd, wOr, wNot, vAnd, vOr, vNot, wB, wBin, wChain, wRet, wRetN, wNext, wNever, wIfE, eF, fO, fS, wNeg, wC, wVar, oVar, wDrop, wSet, wNil, wCons, wLst, wTup, wCall, wFn, wFnP,  wTwo, wThree, wPar, wPar3, wUn, wgN, wgTup, wgCons, wgNil, wAugI, wIsN, sIsN, nonB, wXf, wRaise, wMet, tyOk, sLen, sToInt, sList, sListD, sTuple, sAdd, sInt, sInt0, sIn, sEq, sEqD, sEqX_nil, sEqX_str, sEqX_int, sEqX_bl, sEqX_non, sEqX_sL, sEqX_iL, sEqX_sT, List.isEmpty_map, flt_all, List.isEmpty_nil, List.isEmpty_cons, sIx, sCut, wCut, wNoP, wSoP, wYes, wBreak, wCont, wApp, wPopAt, wIns, wRevM, wClr, wListRg, wCutS, sMulS, wFnL3, wLend, lentD, nlSD, plSD, wNewT, wPutT, wInT, wBN, asBN, wPut, wFld, wMeth, wMake, wSetF, putD, nons, wIxD, wInD, wGet2, wNewD, wPutD, wEqO, wMin2, wMax2, wMaxLen, wRev, keyD,  wiSeq, wiTup, wiStr, wiRng1, wiRng2, wiEnum, outSlot,  view, SD.fz, Cn.fz, D.strip, asB, ownOf, keepKind, argsD, finD, finE, backD, startD, wipeD, unblk,  isi_list_lst, isi_list_tup, isi_list_str, isi_list_int, isi_list_bl, isi_list_non, isi_list_dic, isi_tup_lst, isi_tup_tup, isi_tup_str, isi_tup_int, isi_tup_bl, isi_tup_non, isi_tup_dic, isi_str_lst, isi_str_tup, isi_str_str, isi_str_int, isi_str_bl, isi_str_non, isi_str_dic,  isi_int_lst, isi_int_tup, isi_int_str, isi_int_int, isi_int_bl, isi_int_non, isi_int_dic, isi_bl_lst, isi_bl_tup, isi_bl_str, isi_bl_int, isi_bl_bl, isi_bl_non, isi_bl_dic,  eqOk_str, eqOk_int, eqOk_bl, eqOk_non, eqOk_sL, eqOk_iL, eqOk_nil, eqOk_nilT, deq_str, deq_int, deq_non, deq_sL, deq_iL, deq_sL_nil, deq_iL_nil, dmem_str, dmem_int, some_strs, some_ints, sIndex_str, sIndex_int, sJoin_str, sSum_int, sSorted_str, sSorted_int, keys_I, keys_S, valG_I, valG_S, putG_I, putG_S, encA_len, Option.isSome_map, PySem.sizeLine_eq,  List.getElem?_cons_succ, List.getElem?_cons_zero, List.getElem?_nil, List.set_cons_succ, List.set_cons_zero, List.length_cons, List.length_nil, List.length_map, List.length_append, List.map_cons, List.map_nil, List.cons_append, List.nil_append, List.replicate_succ, List.replicate_zero, List.getD_cons_succ, List.getD_cons_zero, List.lookup_cons, List.lookup_nil, nm_players_crew, nm_moments_crew, nm_tops_crew, nm_above_crew, nm_check_moment_crew, nm_with_look_crew, nm_all_looks_crew, nm_until_crew, nm_renamed_crew, nm_is_pair_crew, nm_rows_crew, nm_least_at_crew, nm_most_at_crew, nm_seen_crew, nm_folk_crew, nm_shown_crew, nm_notes_crew, nm_count_crew, nm_total_crew, nm_look_crew, nm_undo_crew, nm_copy_crew, nm_sight_crew, nm_players_seen, nm_moments_seen, nm_tops_seen, nm_above_seen, nm_check_moment_seen, nm_with_look_seen, nm_all_looks_seen, nm_until_seen, nm_renamed_seen, nm_is_pair_seen, nm_rows_seen, nm_least_at_seen, nm_most_at_seen, nm_crew_seen, nm_folk_seen, nm_shown_seen, nm_notes_seen, nm_count_seen, nm_total_seen, nm_look_seen, nm_undo_seen, nm_copy_seen, nm_sight_seen, nm_players_folk, nm_moments_folk, nm_tops_folk, nm_above_folk, nm_check_moment_folk, nm_with_look_folk, nm_all_looks_folk, nm_until_folk, nm_renamed_folk, nm_is_pair_folk, nm_rows_folk, nm_least_at_folk, nm_most_at_folk, nm_crew_folk, nm_seen_folk, nm_shown_folk, nm_notes_folk, nm_count_folk, nm_total_folk, nm_look_folk, nm_undo_folk, nm_copy_folk, nm_sight_folk, nm_players_shown, nm_moments_shown, nm_tops_shown, nm_above_shown, nm_check_moment_shown, nm_with_look_shown, nm_all_looks_shown, nm_until_shown, nm_renamed_shown, nm_is_pair_shown, nm_rows_shown, nm_least_at_shown, nm_most_at_shown, nm_crew_shown, nm_seen_shown, nm_folk_shown, nm_notes_shown, nm_count_shown, nm_total_shown, nm_look_shown, nm_undo_shown, nm_copy_shown, nm_sight_shown, nm_players_notes, nm_moments_notes, nm_tops_notes, nm_above_notes, nm_check_moment_notes, nm_with_look_notes, nm_all_looks_notes, nm_until_notes, nm_renamed_notes, nm_is_pair_notes, nm_rows_notes, nm_least_at_notes, nm_most_at_notes, nm_crew_notes, nm_seen_notes, nm_folk_notes, nm_shown_notes, nm_count_notes, nm_total_notes, nm_look_notes, nm_undo_notes, nm_copy_notes, nm_sight_notes,  Nat.reduceAdd, Nat.reduceSub, Nat.reduceLT, Nat.reduceLeDiff, Nat.reduceMul, Nat.reduceEqDiff, Nat.zero_add, Nat.add_zero, Nat.lt_add_left_iff_pos, Nat.le_add_left, Nat.zero_le, Nat.zero_lt_succ, Nat.succ_lt_succ_iff,  Cn.l.injEq, Cn.k.injEq, true_and, and_true, exists_eq', exists_eq_left', Option.some.injEq, Option.map_some, Option.map_none, Option.bind_some, Option.isSome_some, Option.isSome_none,  decide_eq_true_eq, Bool.false_eq_true, Bool.not_eq_true', Bool.not_true, Bool.not_false, Bool.not_not, Bool.true_xor, Bool.false_xor, decide_eq_false_iff_not, if_true, if_false, ite_true, ite_false, reduceIte, reduceCtorEq, decide_true, decide_false, decide_not, and_self, eq_self, ne_eq, not_true, not_false_eq_true, exists_const, and_imp, beq_self_eq_true])
local macro_rules | `(tactic| walk_at "ws") => `(tactic| repeat (first | refine kont_intro ?_ | walk_at "w1"))
def kb (ps t : List Str) (a b : Str) : Bool := (List.range t.length).any fun k => decide (t[k]? = some a) && decide (b ∈ behind ps t k)
theorem kb_known {ps t : List Str} {a b : Str} : kb ps t a b = true ↔ Known ps t t.length a b := by
  unfold kb Known
  rw [List.any_eq_true]
  constructor
  · rintro ⟨k, h1, h2⟩
    simp only [Bool.and_eq_true, decide_eq_true_eq] at h2
    exact ⟨k, List.mem_range.mp h1, h2.1, h2.2⟩
  · rintro ⟨k, h1, h2, h3⟩
    exact ⟨k, List.mem_range.mpr h1, by simp [h2, h3]⟩
def topsAt (L : List Lk) (i : Nat) : List Str := (L[i]?.map (·.2)).getD []
end Sp
namespace Sp
open PySem L2 DL
theorem kb_kab {ps t : List Str} {a b : Str} (nd : t.Nodup) (hb : b ∈ ps) (ne : a ≠ b) : kb ps t a b = kab t a b := by
  rw [Bool.eq_iff_iff, kb_known]
  unfold kab Known behind knownAbove
  rw [decide_eq_true_eq]
  constructor
  · rintro ⟨k, hk, ek, h⟩
    have ha : a ∈ t := List.mem_of_getElem? ek
    have ia : t.idxOf a = k := by
      have e := (List.getElem?_eq_some_iff.mp ek).2
      rw [← e]
      exact List.Nodup.idxOf_getElem nd k hk
    rcases List.mem_append.mp h with h | h
    · have hbt : b ∈ t := List.mem_of_mem_drop h
      obtain ⟨j, hj⟩ := List.getElem?_of_mem h
      rw [List.getElem?_drop] at hj
      have hjl : k + 1 + j < t.length := (List.getElem?_eq_some_iff.mp hj).1
      have ib : t.idxOf b = k + 1 + j := by
        have e := (List.getElem?_eq_some_iff.mp hj).2
        rw [← e]
        exact List.Nodup.idxOf_getElem nd _ hjl
      simp only [ha, hbt, and_self, if_true, ia, ib, Option.some.injEq, decide_eq_true_eq]
      omega
    · have hbt : b ∉ t := by simpa using (List.mem_filter.mp h).2
      simp [ha, hbt]
  · intro h
    by_cases ha : a ∈ t
    · have la : t.idxOf a < t.length := List.idxOf_lt_length_of_mem ha
      have ea : t[t.idxOf a]? = some a := by rw [List.getElem?_eq_getElem la, List.getElem_idxOf la]
      refine ⟨t.idxOf a, la, ea, ?_⟩
      by_cases hbt : b ∈ t
      · simp only [ha, hbt, and_self, if_true, Option.some.injEq, decide_eq_true_eq] at h
        have lb : t.idxOf b < t.length := List.idxOf_lt_length_of_mem hbt
        have eb : t[t.idxOf b]? = some b := by rw [List.getElem?_eq_getElem lb, List.getElem_idxOf lb]
        refine List.mem_append_left _ (List.mem_of_getElem? (i := t.idxOf b - (t.idxOf a + 1)) ?_)
        rw [List.getElem?_drop, show t.idxOf a + 1 + (t.idxOf b - (t.idxOf a + 1)) = t.idxOf b by omega]
        exact eb
      · exact List.mem_append_right _ (List.mem_filter.mpr ⟨hb, by simp [hbt]⟩)
    · by_cases hbt : b ∈ t <;> simp [ha, hbt] at h
end Sp
namespace Sp
open PySem L2 DL
theorem kb_self {ps t : List Str} {p : Str} (nd : t.Nodup) : kb ps t p p = false := by
  cases e : kb ps t p p with
  | false => rfl
  | true =>
    exfalso
    obtain ⟨k, hk, ek, h⟩ := kb_known.mp e
    have hp : p ∈ t := List.mem_of_getElem? ek
    unfold behind at h
    rcases List.mem_append.mp h with h | h
    · obtain ⟨i, hi⟩ := List.getElem?_of_mem h
      rw [List.getElem?_drop] at hi
      have il := (List.getElem?_eq_some_iff.mp hi).1
      have e1 : t.idxOf p = k := by
        rw [← (List.getElem?_eq_some_iff.mp ek).2]
        exact List.Nodup.idxOf_getElem nd k hk
      have e2 : t.idxOf p = k + 1 + i := by
        rw [← (List.getElem?_eq_some_iff.mp hi).2]
        exact List.Nodup.idxOf_getElem nd _ il
      omega
    · have := (List.mem_filter.mp h).2
      simp [hp] at this
theorem last_spec (P : Nat → Bool) : ∀ j, match (List.range j).reverse.find? P with
    | none => ∀ f < j, P f = false
    | some f => f < j ∧ P f = true ∧ ∀ g, f < g → g < j → P g = false
  | 0 => fun f h => absurd h (Nat.not_lt_zero f)
  | j + 1 => by
    rw [List.range_succ, List.reverse_append, List.reverse_cons, List.reverse_nil, List.nil_append, List.singleton_append, List.find?_cons]
    have ih := last_spec P j
    cases c : P j with
    | true => exact ⟨Nat.lt_succ_self j, c, fun g h1 h2 => by omega⟩
    | false =>
      simp only
      cases e : (List.range j).reverse.find? P with
      | none =>
        rw [e] at ih
        intro f hf
        by_cases q : f = j
        · rw [q]; exact c
        · exact ih f (by omega)
      | some f =>
        rw [e] at ih
        refine ⟨by have := ih.1; omega, ih.2.1, fun g h1 h2 => ?_⟩
        by_cases q : g = j
        · rw [q]; exact c
        · exact ih.2.2 g h1 (by omega)
def goodAt (ps : List Str) (L : List Lk) (p : Str) (j f : Nat) : Bool := ps.any fun o => kb ps (topsAt L f) o p && kb ps (topsAt L j) p o
def lastF (ps : List Str) (L : List Lk) (p : Str) (j : Nat) : Option Nat := (List.range j).reverse.find? (goodAt ps L p j)
structure Fits (s : Sg) (ps : List Str) (L : List Lk) : Prop where
  crew : s.crew = ps
  mom : s.moments = L.map (·.1)
  inc : (L.map (·.1)).Pairwise (· < ·)
  tops : ∀ q ∈ L, s.tops q.1 = q.2
  nd : ∀ q ∈ L, q.2.Nodup
def momAt (L : List Lk) (i : Nat) : Int := (L[i]?.map (·.1)).getD 0
theorem momAt_lt {L : List Lk} (h : (L.map (·.1)).Pairwise (· < ·)) {i j : Nat} (ij : i < j) (hj : j < L.length) : momAt L i < momAt L j := by
  have hi : i < L.length := by omega
  have := List.pairwise_iff_getElem.mp h i j (by rw [List.length_map]; exact hi) (by rw [List.length_map]; exact hj) ij
  rw [List.getElem_map, List.getElem_map] at this
  unfold momAt
  rw [List.getElem?_eq_getElem hi, List.getElem?_eq_getElem hj]
  exact this
theorem moms_range (L : List Lk) : L.map (·.1) = (List.range L.length).map (momAt L) := by
  refine List.ext_getElem (by simp) fun i h1 h2 => ?_
  rw [List.length_map] at h1
  rw [List.getElem_map, List.getElem_map, List.getElem_range]
  unfold momAt
  rw [List.getElem?_eq_getElem h1]
  rfl
theorem Fits.at_ {s : Sg} {ps : List Str} {L : List Lk} (h : Fits s ps L) {i : Nat} (hi : i < L.length) : s.tops (momAt L i) = topsAt L i ∧ (topsAt L i).Nodup := by
  have e := List.getElem?_eq_getElem hi
  have hm : L[i] ∈ L := List.getElem_mem hi
  unfold momAt topsAt
  rw [e]
  exact ⟨h.tops _ hm, h.nd _ hm⟩
theorem found_good {s : Sg} {ps : List Str} {L : List Lk} {p : Str} {f j : Nat} (h : Fits s ps L) (hp : p ∈ ps) (hf : f < L.length) (hj : j < L.length) :
    s.foundAt p (momAt L j) (momAt L f) = [] ↔ goodAt ps L p j f = false := by
  obtain ⟨tf, nf⟩ := h.at_ hf
  obtain ⟨tj, nj⟩ := h.at_ hj
  unfold Sg.foundAt Sg.passed goodAt
  rw [h.crew, tf, tj, List.filter_eq_nil_iff, List.any_eq_false]
  constructor
  · intro hh o ho c
    obtain ⟨c1, c2⟩ := Bool.and_eq_true_iff.mp c
    by_cases q : o = p
    · subst q
      rw [kb_self nf] at c1
      cases c1
    · refine hh o (List.mem_filter.mpr ⟨ho, ?_⟩) ?_
      · rw [← kb_kab nj ho (fun e => q e.symm), c2]
        simp [q]
      · rw [← kb_kab nf hp q]
        exact c1
  · intro hh o ho c
    obtain ⟨ho, c2⟩ := List.mem_filter.mp ho
    obtain ⟨q, c2⟩ := Bool.and_eq_true_iff.mp c2
    have q : o ≠ p := of_decide_eq_true q
    refine hh o ho ?_
    rw [kb_kab nj ho (fun e => q e.symm), kb_kab nf hp q, c, c2]
    rfl
theorem begins_last {s : Sg} {ps : List Str} {L : List Lk} {p : Str} {j : Nat} (h : Fits s ps L) (hp : p ∈ ps) (hj : j < L.length) : (s.begins p (momAt L j)).map (·.1) = (lastF ps L p j).map (momAt L) := by
  have hf : s.moments.filter (fun m => decide (m < momAt L j)) = (List.range j).map (momAt L) := by
    rw [h.mom, moms_range L, List.filter_map, show L.length = j + (L.length - j) by omega, List.range_add, List.filter_append, List.filter_eq_self.mpr, List.filter_eq_nil_iff.mpr, List.append_nil]
    · intro a ha
      obtain ⟨b, hb, rfl⟩ := List.mem_map.mp ha
      have hb := List.mem_range.mp hb
      show ¬ decide (momAt L (j + b) < momAt L j) = true
      rw [decide_eq_true_eq]
      by_cases c : b = 0
      · subst c
        rw [Nat.add_zero]; omega
      · have := momAt_lt h.inc (i := j) (j := j + b) (by omega) (by omega)
        omega
    · intro a ha
      show decide (momAt L a < momAt L j) = true
      rw [decide_eq_true_eq]
      exact momAt_lt h.inc (List.mem_range.mp ha) hj
  unfold Sg.begins lastF
  rw [hf, ← List.map_reverse]
  have gen : ∀ l : List Nat, (∀ f ∈ l, f < L.length) → ((l.map (momAt L)).findSome? fun b => if s.foundAt p (momAt L j) b = [] then none else some (b, s.foundAt p (momAt L j) b)).map (·.1) = (l.find? (goodAt ps L p j)).map (momAt L) := by
    intro l
    induction l with
    | nil => intro _; rfl
    | cons f l ih =>
      intro hl
      have hfg := found_good h hp (hl f List.mem_cons_self) hj
      rw [List.map_cons, List.findSome?_cons, List.find?_cons]
      cases c : goodAt ps L p j f with
      | true =>
        rw [if_neg (fun e => by rw [hfg.mp e] at c; cases c)]
        rfl
      | false =>
        rw [if_pos (hfg.mpr c)]
        exact ih fun g hg => hl g (List.mem_cons_of_mem _ hg)
  exact gen _ fun f hf2 => by
    have := List.mem_range.mp (List.mem_reverse.mp hf2)
    omega
def spanIx (ps : List Str) (L : List Lk) (p : Str) : List (Nat × Nat) := (List.range (L.length - 1)).filterMap fun i => (lastF ps L p (i + 1)).map fun f => (f, i + 1)
end Sp
namespace Sp
open PySem L2 DL
theorem begins_found {s : Sg} {p : Str} {e b : Int} {l : List Str} (h : s.begins p e = some (b, l)) : l = s.foundAt p e b := by
  obtain ⟨b', _, hb⟩ := List.exists_of_findSome?_eq_some h
  by_cases c : s.foundAt p e b' = []
  · rw [if_pos c] at hb; cases hb
  · rw [if_neg c] at hb
    cases hb
    rfl
def kStepN (a : List (Nat × Nat) × Option Nat) (x : Nat × Nat) : List (Nat × Nat) × Option Nat := if a.2.all (fun z => decide (z < x.1)) then (a.1 ++ [x], some x.1) else a
def keepB (S : List (Nat × Nat)) (x : Nat × Nat) : Bool := S.all fun y => !decide (y.2 < x.2) || decide (y.1 < x.1)
structure KInv (pre : List (Nat × Nat)) (r : List (Nat × Nat) × Option Nat) : Prop where
  eq : r.1 = pre.filter (keepB pre)
  none : r.2 = none → pre = []
  some : ∀ z, r.2 = some z → (∃ y ∈ pre, y.1 = z) ∧ ∀ y ∈ pre, y.1 ≤ z
theorem keepB_iff {S : List (Nat × Nat)} {x : Nat × Nat} : keepB S x = true ↔ ∀ y ∈ S, y.2 < x.2 → y.1 < x.1 := by
  unfold keepB
  rw [List.all_eq_true]
  refine forall_congr' fun y => forall_congr' fun hy => ?_
  simp only [Bool.or_eq_true, Bool.not_eq_true', decide_eq_false_iff_not, decide_eq_true_eq]
  constructor
  · rintro (h | h) c
    · exact absurd c h
    · exact h
  · intro h
    by_cases c : y.2 < x.2
    · exact .inr (h c)
    · exact .inl c
theorem kstep_inv {pre : List (Nat × Nat)} {r : List (Nat × Nat) × Option Nat} {x : Nat × Nat} (h : KInv pre r) (lt : ∀ y ∈ pre, y.2 < x.2) : KInv (pre ++ [x]) (kStepN r x) := by
  have e0 : (pre ++ [x]).filter (keepB (pre ++ [x])) = pre.filter (keepB pre) ++ [x].filter (keepB (pre ++ [x])) := by
    rw [List.filter_append]
    congr 1
    refine List.filter_congr fun y hy => ?_
    rw [Bool.eq_iff_iff, keepB_iff, keepB_iff]
    constructor
    · exact fun hh z hz => hh z (List.mem_append_left _ hz)
    · intro hh z hz c
      rcases List.mem_append.mp hz with hz | hz
      · exact hh z hz c
      · rw [List.mem_singleton.mp hz] at c
        have := lt y hy
        omega
  have kx : keepB (pre ++ [x]) x = true ↔ ∀ y ∈ pre, y.1 < x.1 := by
    rw [keepB_iff]
    constructor
    · exact fun hh y hy => hh y (List.mem_append_left _ hy) (lt y hy)
    · intro hh y hy c
      rcases List.mem_append.mp hy with hy | hy
      · exact hh y hy
      · rw [List.mem_singleton.mp hy] at c
        omega
  obtain ⟨xs, lo⟩ := r
  have hx := h.eq
  replace hx : xs = pre.filter (keepB pre) := hx
  cases lo with
  | none =>
    have hp := h.none rfl
    subst hp
    subst hx
    refine ⟨?_, fun c => (nomatch c), fun z hz => ?_⟩
    · show ([] ++ [x] : List (Nat × Nat)) = _
      rw [e0, List.filter_nil, List.filter_cons, if_pos (kx.mpr fun y hy => (nomatch hy))]
      rfl
    · have hz : x.1 = z := Option.some.inj hz
      exact ⟨⟨x, by simp, hz⟩, fun y hy => by
        have hy : y ∈ [x] := hy
        rw [List.mem_singleton.mp hy]; omega⟩
  | some z =>
    obtain ⟨⟨w, hw, ew⟩, top⟩ := h.some z rfl
    by_cases c : z < x.1
    · have e : kStepN (xs, some z) x = (xs ++ [x], some x.1) := by
        unfold kStepN
        rw [if_pos (by simp [c])]
      rw [e]
      refine ⟨?_, fun c => (nomatch c), fun z2 hz => ?_⟩
      · show xs ++ [x] = _
        rw [e0, ← hx, List.filter_cons, if_pos (kx.mpr fun y hy => by have := top y hy; omega), List.filter_nil]
      · have hz : x.1 = z2 := Option.some.inj hz
        exact ⟨⟨x, by simp, hz⟩, fun y hy => by
          rcases List.mem_append.mp hy with hy | hy
          · have := top y hy; omega
          · rw [List.mem_singleton.mp hy]; omega⟩
    · have e : kStepN (xs, some z) x = (xs, some z) := by
        unfold kStepN
        rw [if_neg (by simp [c])]
      rw [e]
      refine ⟨?_, fun c => (nomatch c), fun z2 hz => ?_⟩
      · show xs = _
        rw [e0, ← hx, List.filter_cons, if_neg, List.filter_nil, List.append_nil]
        intro k
        have := kx.mp k w hw
        omega
      · have hz : z = z2 := Option.some.inj hz
        subst hz
        exact ⟨⟨w, List.mem_append_left _ hw, ew⟩, fun y hy => by
          rcases List.mem_append.mp hy with hy | hy
          · exact top y hy
          · rw [List.mem_singleton.mp hy]; omega⟩
theorem kfold_inv : ∀ (S pre : List (Nat × Nat)) (r : List (Nat × Nat) × Option Nat), KInv pre r → (pre ++ S).Pairwise (fun x y => x.2 < y.2) → KInv (pre ++ S) (S.foldl kStepN r)
  | [], pre, r, h, _ => by rw [List.append_nil]; exact h
  | x :: S, pre, r, h, pw => by
    rw [List.foldl_cons, show pre ++ x :: S = (pre ++ [x]) ++ S by simp]
    refine kfold_inv S (pre ++ [x]) _ (kstep_inv h fun y hy => ?_) (by simpa using pw)
    exact (List.pairwise_append.mp pw).2.2 y hy x List.mem_cons_self
theorem kept_eq {S : List (Nat × Nat)} (pw : S.Pairwise fun x y => x.2 < y.2) : (S.foldl kStepN ([], none)).1 = S.filter (keepB S) :=
  (kfold_inv S [] ([], none) ⟨rfl, fun _ => rfl, fun z h => (nomatch h)⟩ pw).eq
theorem spanIx_pw (ps : List Str) (L : List Lk) (p : Str) : (spanIx ps L p).Pairwise fun x y => x.2 < y.2 := by
  unfold spanIx
  rw [List.pairwise_filterMap]
  refine (List.pairwise_lt_range (n := L.length - 1)).imp fun {i j} ij x hx y hy => ?_
  cases e1 : lastF ps L p (i + 1) with
  | none => rw [e1] at hx; cases hx
  | some f =>
    cases e2 : lastF ps L p (j + 1) with
    | none => rw [e2] at hy; cases hy
    | some g =>
      rw [e1] at hx
      rw [e2] at hy
      cases hx
      cases hy
      show i + 1 < j + 1
      omega
theorem spanIx_mem {ps : List Str} {L : List Lk} {p : Str} {x : Nat × Nat} : x ∈ spanIx ps L p ↔ x.2 < L.length ∧ lastF ps L p x.2 = some x.1 := by
  unfold spanIx
  rw [List.mem_filterMap]
  constructor
  · rintro ⟨i, hi, e⟩
    have hi := List.mem_range.mp hi
    cases e1 : lastF ps L p (i + 1) with
    | none => rw [e1] at e; cases e
    | some f =>
      rw [e1] at e
      cases e
      exact ⟨by show i + 1 < _; omega, e1⟩
  · rintro ⟨h1, h2⟩
    obtain ⟨f, j⟩ := x
    cases j with
    | zero => cases h2
    | succ i =>
      have h1 : i + 1 < L.length := h1
      exact ⟨i, List.mem_range.mpr (by omega), by rw [show lastF ps L p (i + 1) = some f from h2]; rfl⟩
def block (s : Sg) (L : List Lk) (p : Str) (x : Nat × Nat) : List St3 := (ssort (s.foundAt p (momAt L x.2) (momAt L x.1))).map fun o => (momAt L x.1, momAt L x.2, o)
def keptIx (ps : List Str) (L : List Lk) (p : Str) : List (Nat × Nat) := (spanIx ps L p).filter (keepB (spanIx ps L p))
theorem least_blocks {s : Sg} {ps : List Str} {L : List Lk} {p : Str} (h : Fits s ps L) (hp : p ∈ ps) : s.least p = (keptIx ps L p).flatMap (block s L p) := by
  unfold keptIx
  rw [← kept_eq (spanIx_pw ps L p)]
  have ed : (List.range L.length).drop 1 = (List.range (L.length - 1)).map (· + 1) := by
    refine List.ext_getElem (by simp) fun i h1 h2 => ?_
    simp only [List.getElem_drop, List.getElem_range, List.getElem_map]
    omega
  have es : s.steps = (List.range (L.length - 1)).map fun i => momAt L (i + 1) := by
    unfold Sg.steps
    rw [h.mom, moms_range L, ← List.map_drop, ed, List.map_map]
    rfl
  unfold Sg.least spanIx
  rw [es]
  have gen : ∀ (is : List Nat) (a : List (Nat × Nat)) (lo : Option Nat), (∀ i ∈ is, i + 1 < L.length) → (∀ z, lo = some z → z < L.length) →
      ((is.map fun i => momAt L (i + 1)).foldl (leastStep s p) (a.flatMap (block s L p), lo.map (momAt L))).1 = ((is.filterMap fun i => (lastF ps L p (i + 1)).map fun f => (f, i + 1)).foldl kStepN (a, lo)).1.flatMap (block s L p) := by
    intro is
    induction is with
    | nil => intro a lo _ _; rfl
    | cons i is ih =>
      intro a lo hi hlo
      have hil := hi i List.mem_cons_self
      have hi' : ∀ j ∈ is, j + 1 < L.length := fun j hj => hi j (List.mem_cons_of_mem _ hj)
      have hb := begins_last (j := i + 1) h hp hil
      rw [List.map_cons, List.foldl_cons, List.filterMap_cons]
      cases eb : s.begins p (momAt L (i + 1)) with
      | none =>
        rw [eb] at hb
        cases el : lastF ps L p (i + 1) with
        | some f => rw [el] at hb; cases hb
        | none =>
          have e1 : leastStep s p (a.flatMap (block s L p), lo.map (momAt L)) (momAt L (i + 1)) = (a.flatMap (block s L p), lo.map (momAt L)) := by
            unfold leastStep
            rw [eb]
          rw [e1]
          exact ih a lo hi' hlo
      | some bl =>
        obtain ⟨b, l⟩ := bl
        have hl := begins_found eb
        rw [eb] at hb
        cases el : lastF ps L p (i + 1) with
        | none => rw [el] at hb; cases hb
        | some f =>
          rw [el] at hb
          have hb : b = momAt L f := Option.some.inj hb
          subst hb
          have hf : f < i + 1 := by
            have sp := last_spec (goodAt ps L p (i + 1)) (i + 1)
            unfold lastF at el
            rw [el] at sp
            exact sp.1
          have hc : (lo.map (momAt L)).all (fun z => decide (z < momAt L f)) = lo.all (fun z => decide (z < f)) := by
            cases lo with
            | none => rfl
            | some z =>
              have hz := hlo z rfl
              show decide (momAt L z < momAt L f) = decide (z < f)
              congr 1
              refine propext ⟨fun c => ?_, fun c => momAt_lt h.inc c (by omega)⟩
              by_cases q : z < f
              · exact q
              · by_cases q2 : z = f
                · rw [q2] at c; omega
                · have := momAt_lt h.inc (i := f) (j := z) (by omega) hz
                  omega
          simp only [Option.map_some, List.foldl_cons]
          by_cases c : lo.all (fun z => decide (z < f)) = true
          · have e1 : leastStep s p (a.flatMap (block s L p), lo.map (momAt L)) (momAt L (i + 1)) = ((a ++ [(f, i + 1)]).flatMap (block s L p), (some f).map (momAt L)) := by
              unfold leastStep
              rw [eb]
              simp only [hc]
              rw [if_pos c, List.flatMap_append, hl]
              simp [block]
            have e2 : kStepN (a, lo) (f, i + 1) = (a ++ [(f, i + 1)], some f) := by
              unfold kStepN
              rw [if_pos c]
            rw [e1, e2]
            exact ih (a ++ [(f, i + 1)]) (some f) hi' fun z hz => by cases hz; omega
          · have e1 : leastStep s p (a.flatMap (block s L p), lo.map (momAt L)) (momAt L (i + 1)) = (a.flatMap (block s L p), lo.map (momAt L)) := by
              unfold leastStep
              rw [eb]
              simp only [hc]
              rw [if_neg c]
            have e2 : kStepN (a, lo) (f, i + 1) = (a, lo) := by
              unfold kStepN
              rw [if_neg c]
            rw [e1, e2]
            exact ih a lo hi' hlo
  exact gen _ [] none (fun i hi => by have := List.mem_range.mp hi; omega) (fun z hz => (nomatch hz))
theorem found_mem {s : Sg} {ps : List Str} {L : List Lk} {p o : Str} {f j : Nat} (h : Fits s ps L) (hf : f < L.length) (hj : j < L.length) :
    o ∈ s.foundAt p (momAt L j) (momAt L f) ↔ o ∈ ps ∧ o ≠ p ∧ kab (topsAt L f) o p = true ∧ kab (topsAt L j) p o = true := by
  obtain ⟨tf, nf⟩ := h.at_ hf
  obtain ⟨tj, nj⟩ := h.at_ hj
  unfold Sg.foundAt Sg.passed
  rw [h.crew, tf, tj, List.mem_filter, List.mem_filter, Bool.and_eq_true, decide_eq_true_eq]
  exact ⟨fun ⟨⟨a, b, c⟩, d⟩ => ⟨a, b, d, c⟩, fun ⟨a, b, c, d⟩ => ⟨⟨a, b, d⟩, c⟩⟩
theorem good_iff {s : Sg} {ps : List Str} {L : List Lk} {p : Str} {f j : Nat} (h : Fits s ps L) (hp : p ∈ ps) (hf : f < L.length) (hj : j < L.length) :
    goodAt ps L p j f = true ↔ ∃ o, o ∈ ps ∧ o ≠ p ∧ kab (topsAt L f) o p = true ∧ kab (topsAt L j) p o = true := by
  constructor
  · intro g
    by_cases c : s.foundAt p (momAt L j) (momAt L f) = []
    · rw [(found_good h hp hf hj).mp c] at g; cases g
    · obtain ⟨o, ho⟩ := List.exists_mem_of_ne_nil _ c
      exact ⟨o, (found_mem h hf hj).mp ho⟩
  · rintro ⟨o, ho⟩
    cases g : goodAt ps L p j f with
    | true => rfl
    | false =>
      have c := (found_good h hp hf hj).mpr g
      have := (found_mem h hf hj).mpr ho
      rw [c] at this
      cases this
theorem lastF_some {ps : List Str} {L : List Lk} {p : Str} {j f : Nat} : lastF ps L p j = some f ↔ f < j ∧ goodAt ps L p j f = true ∧ ∀ g, f < g → g < j → goodAt ps L p j g = false := by
  have sp := last_spec (goodAt ps L p j) j
  unfold lastF
  cases e : (List.range j).reverse.find? (goodAt ps L p j) with
  | none =>
    rw [e] at sp
    refine ⟨fun h => (nomatch h), fun ⟨h1, h2, _⟩ => ?_⟩
    rw [sp f h1] at h2
    cases h2
  | some g =>
    rw [e] at sp
    refine ⟨fun h => by cases h; exact sp, fun ⟨h1, h2, h3⟩ => ?_⟩
    obtain ⟨s1, s2, s3⟩ := sp
    by_cases c1 : f < g
    · rw [h3 g c1 s1] at s2; cases s2
    · by_cases c2 : g < f
      · rw [s3 f c2 h1] at h2; cases h2
      · rw [show g = f by omega]
theorem lastF_ge {ps : List Str} {L : List Lk} {p : Str} {j f : Nat} (h1 : f < j) (h2 : goodAt ps L p j f = true) : ∃ g, lastF ps L p j = some g ∧ f ≤ g := by
  have sp := last_spec (goodAt ps L p j) j
  cases e : lastF ps L p j with
  | none =>
    unfold lastF at e
    rw [e] at sp
    rw [sp f h1] at h2
    cases h2
  | some g =>
    refine ⟨g, rfl, ?_⟩
    have s3 := (lastF_some.mp e).2.2
    by_cases c : g < f
    · rw [s3 f c h1] at h2; cases h2
    · omega
def allRows (ps : List Str) (L : List Lk) (p : Str) : List St3 := (List.range L.length).flatMap fun a => (List.range (L.length - (a + 1))).flatMap fun i =>
  (ps.filter fun o => decide (o ≠ p) && (kab (topsAt L a) o p && kab (topsAt L (a + 1 + i)) p o)).map fun o => (momAt L a, momAt L (a + 1 + i), o)
theorem allRows_mem {ps : List Str} {L : List Lk} {p : Str} {x : St3} : x ∈ allRows ps L p ↔ ∃ f j o, f < j ∧ j < L.length ∧ (o ∈ ps ∧ o ≠ p ∧ kab (topsAt L f) o p = true ∧ kab (topsAt L j) p o = true) ∧ x = (momAt L f, momAt L j, o) := by
  unfold allRows
  simp only [List.mem_flatMap, List.mem_range, List.mem_map, List.mem_filter, Bool.and_eq_true, decide_eq_true_eq]
  constructor
  · rintro ⟨a, ha, i, hi, o, ⟨h1, h2, h3, h4⟩, rfl⟩
    exact ⟨a, a + 1 + i, o, by omega, by omega, ⟨h1, h2, h3, h4⟩, rfl⟩
  · rintro ⟨f, j, o, h1, h2, h3, rfl⟩
    obtain ⟨a, b, c, d⟩ := h3
    have e : f + 1 + (j - (f + 1)) = j := by omega
    exact ⟨f, by omega, j - (f + 1), by omega, o, ⟨a, b, c, by rw [e]; exact d⟩, by rw [e]⟩
def inner (rows : List St3) (x : St3) : List St3 := rows.filter fun r => decide (x.1 ≤ r.1) && (decide (r.2.1 ≤ x.2.1) && !decide (r.1 = x.1 ∧ r.2.1 = x.2.1))
def lawMin (rows : List St3) : List St3 := rows.filter fun x => (inner rows x).isEmpty
def leS3 (x y : St3) : Bool := decide (x.1 < y.1 ∨ (x.1 = y.1 ∧ (x.2.1 < y.2.1 ∨ (x.2.1 = y.2.1 ∧ leStr x.2.2 y.2.2 = true))))
theorem leS3_antis {a b : St3} (h1 : leS3 a b = true) (h2 : leS3 b a = true) : a = b := by
  obtain ⟨a1, a2, a3⟩ := a
  obtain ⟨b1, b2, b3⟩ := b
  replace h1 := of_decide_eq_true h1
  replace h2 := of_decide_eq_true h2
  simp only at h1 h2
  have e1 : a1 = b1 := by rcases h1 with h1 | h1 <;> rcases h2 with h2 | h2 <;> omega
  subst e1
  rcases h1 with h1 | ⟨_, h1⟩
  · omega
  · rcases h2 with h2 | ⟨_, h2⟩
    · omega
    · rcases h1 with h1 | ⟨e, h1⟩
      · rcases h2 with h2 | h2 <;> omega
      · rcases h2 with h2 | ⟨_, h2⟩
        · omega
        · subst e
          rw [le_antis h1 h2]
theorem leS3_trans {a b c : St3} (h1 : leS3 a b = true) (h2 : leS3 b c = true) : leS3 a c = true := by
  have h1 := of_decide_eq_true h1
  have h2 := of_decide_eq_true h2
  refine decide_eq_true ?_
  rcases h1 with h1 | ⟨e1, h1⟩
  · rcases h2 with h2 | ⟨e2, _⟩
    · exact .inl (by omega)
    · exact .inl (by omega)
  · rcases h2 with h2 | ⟨e2, h2⟩
    · exact .inl (by omega)
    · refine .inr ⟨e1.trans e2, ?_⟩
      rcases h1 with h1 | ⟨f1, h1⟩
      · rcases h2 with h2 | ⟨f2, _⟩
        · exact .inl (by omega)
        · exact .inl (by omega)
      · rcases h2 with h2 | ⟨f2, h2⟩
        · exact .inl (by omega)
        · exact .inr ⟨f1.trans f2, le_trans' h1 h2⟩
theorem leS3_total (a b : St3) : (leS3 a b || leS3 b a) = true := by
  unfold leS3
  rw [Bool.or_eq_true, decide_eq_true_eq, decide_eq_true_eq]
  by_cases c1 : a.1 < b.1
  · exact .inl (.inl c1)
  · by_cases c2 : b.1 < a.1
    · exact .inr (.inl c2)
    · have e : a.1 = b.1 := by omega
      by_cases c3 : a.2.1 < b.2.1
      · exact .inl (.inr ⟨e, .inl c3⟩)
      · by_cases c4 : b.2.1 < a.2.1
        · exact .inr (.inr ⟨e.symm, .inl c4⟩)
        · have e2 : a.2.1 = b.2.1 := by omega
          have := le_total' a.2.2 b.2.2
          rw [Bool.or_eq_true] at this
          rcases this with h | h
          · exact .inl (.inr ⟨e, .inr ⟨e2, h⟩⟩)
          · exact .inr (.inr ⟨e.symm, .inr ⟨e2.symm, h⟩⟩)
theorem momAt_inj {L : List Lk} (h : (L.map (·.1)).Pairwise (· < ·)) {i j : Nat} (hi : i < L.length) (hj : j < L.length) (e : momAt L i = momAt L j) : i = j := by
  by_cases c1 : i < j
  · have := momAt_lt h c1 hj; omega
  · by_cases c2 : j < i
    · have := momAt_lt h c2 hi; omega
    · omega
theorem momAt_le {L : List Lk} (h : (L.map (·.1)).Pairwise (· < ·)) {i j : Nat} (hi : i < L.length) (hj : j < L.length) : momAt L i ≤ momAt L j ↔ i ≤ j := by
  constructor
  · intro c
    by_cases q : j < i
    · have := momAt_lt h q hi; omega
    · omega
  · intro c
    by_cases q : i = j
    · rw [q]; exact Int.le_refl _
    · exact Int.le_of_lt (momAt_lt h (by omega) hj)
theorem kept_iff {ps : List Str} {L : List Lk} {p : Str} {x : Nat × Nat} : x ∈ keptIx ps L p ↔ x.2 < L.length ∧ lastF ps L p x.2 = some x.1 ∧ ∀ j < x.2, ∀ f, lastF ps L p j = some f → f < x.1 := by
  unfold keptIx
  rw [List.mem_filter, spanIx_mem, keepB_iff]
  constructor
  · rintro ⟨⟨h1, h2⟩, h3⟩
    exact ⟨h1, h2, fun j hj f hf => h3 (f, j) (spanIx_mem.mpr ⟨by show j < _; omega, hf⟩) hj⟩
  · rintro ⟨h1, h2, h3⟩
    exact ⟨⟨h1, h2⟩, fun y hy c => h3 y.2 c y.1 (spanIx_mem.mp hy).2⟩
theorem least_mem {s : Sg} {ps : List Str} {L : List Lk} {p : Str} (h : Fits s ps L) (hp : p ∈ ps) {x : St3} : x ∈ s.least p ↔ x ∈ lawMin (allRows ps L p) := by
  rw [least_blocks h hp]
  unfold lawMin block
  rw [List.mem_flatMap, List.mem_filter]
  constructor
  · rintro ⟨⟨f, j⟩, hk, hx⟩
    obtain ⟨o, ho, rfl⟩ := List.mem_map.mp hx
    have ho := ssort_mem.mp ho
    obtain ⟨k1, k2, k3⟩ := kept_iff.mp hk
    replace k1 : j < L.length := k1
    replace k2 : lastF ps L p j = some f := k2
    obtain ⟨l1, l2, l3⟩ := lastF_some.mp k2
    have hf : f < L.length := by omega
    have hrow := (found_mem h hf k1).mp ho
    refine ⟨allRows_mem.mpr ⟨f, j, o, l1, k1, hrow, rfl⟩, ?_⟩
    rw [List.isEmpty_iff]
    unfold inner
    rw [List.filter_eq_nil_iff]
    intro r hr c
    obtain ⟨f', j', o', lt', jl', hr', rfl⟩ := allRows_mem.mp hr
    simp only [Bool.and_eq_true, decide_eq_true_eq, Bool.not_eq_true', decide_eq_false_iff_not] at c
    obtain ⟨c1, c2, c3⟩ := c
    have c1 := (momAt_le h.inc hf (by omega)).mp c1
    have c2 := (momAt_le h.inc jl' k1).mp c2
    have gd : goodAt ps L p j' f' = true := (good_iff h hp (by omega) jl').mpr ⟨o', hr'⟩
    by_cases q : j' = j
    · subst q
      have nf : f' ≠ f := fun e => c3 (by rw [e]; exact ⟨rfl, rfl⟩)
      rw [l3 f' (by omega) lt'] at gd
      cases gd
    · obtain ⟨g, hg, fg⟩ := lastF_ge lt' gd
      have := k3 j' (by show j' < j; omega) g hg
      replace this : g < f := this
      omega
  · rintro ⟨hr, hi⟩
    obtain ⟨f, j, o, lt, jl, hrow, rfl⟩ := allRows_mem.mp hr
    have hf : f < L.length := by omega
    rw [List.isEmpty_iff] at hi
    unfold inner at hi
    rw [List.filter_eq_nil_iff] at hi
    have none_ : ∀ f' j', f' < j' → j' < L.length → goodAt ps L p j' f' = true → f ≤ f' → j' ≤ j → f' = f ∧ j' = j := by
      intro f' j' lt' jl' gd c1 c2
      obtain ⟨o', hr'⟩ := (good_iff h hp (by omega) jl').mp gd
      have := hi _ (allRows_mem.mpr ⟨f', j', o', lt', jl', hr', rfl⟩)
      have d1 := (momAt_le h.inc hf (by omega : f' < L.length)).mpr c1
      have d2 := (momAt_le h.inc jl' jl).mpr c2
      by_cases q : momAt L f' = momAt L f ∧ momAt L j' = momAt L j
      · exact ⟨momAt_inj h.inc (by omega) hf q.1, momAt_inj h.inc jl' jl q.2⟩
      · refine absurd ?_ this
        simp only [Bool.and_eq_true, decide_eq_true_eq, Bool.not_eq_true', decide_eq_false_iff_not]
        exact ⟨d1, d2, q⟩
    have gd : goodAt ps L p j f = true := (good_iff h hp hf jl).mpr ⟨o, hrow⟩
    have hl : lastF ps L p j = some f := lastF_some.mpr ⟨lt, gd, fun g fg gj => by
      cases q : goodAt ps L p j g with
      | false => rfl
      | true =>
        have := (none_ g j gj jl q (by omega) (Nat.le_refl _)).1
        omega⟩
    refine ⟨(f, j), kept_iff.mpr ⟨jl, hl, fun j' hj f' hf' => ?_⟩, List.mem_map.mpr ⟨o, ssort_mem.mpr ((found_mem h hf jl).mpr hrow), rfl⟩⟩
    obtain ⟨l1, l2, _⟩ := lastF_some.mp hf'
    replace hj : j' < j := hj
    show f' < f
    by_cases c : f' < f
    · exact c
    · have := (none_ f' j' l1 (by omega) l2 (by omega) (by omega)).2
      omega
theorem least_pw {s : Sg} {ps : List Str} {L : List Lk} {p : Str} (h : Fits s ps L) (hp : p ∈ ps) (nd : ps.Nodup) : (s.least p).Pairwise fun x y => leS3 x y = true ∧ x ≠ y := by
  rw [least_blocks h hp, List.pairwise_flatMap]
  constructor
  · rintro ⟨f, j⟩ _
    unfold block
    rw [List.pairwise_map]
    have n1 : (ssort (s.foundAt p (momAt L j) (momAt L f))).Nodup := by
      rw [(ssort_perm _).nodup_iff]
      unfold Sg.foundAt Sg.passed
      rw [h.crew]
      exact (nd.filter _).filter _
    refine ((ssort_sorted (s.foundAt p (momAt L j) (momAt L f))).and n1).imp fun {a b} hab => ⟨decide_eq_true (.inr ⟨rfl, .inr ⟨rfl, hab.1⟩⟩), fun e => hab.2 ?_⟩
    injection e with _ e
    injection e
  · have pw : (keptIx ps L p).Pairwise fun x y => x.2 < y.2 := (spanIx_pw ps L p).filter _
    refine (List.Pairwise.and_mem.mp pw).imp fun {x y} hxy a ha b hb => ?_
    obtain ⟨hx, hy, lt⟩ := hxy
    obtain ⟨o, _, rfl⟩ := List.mem_map.mp ha
    obtain ⟨o', _, rfl⟩ := List.mem_map.mp hb
    obtain ⟨x1, x2, x3⟩ := kept_iff.mp hx
    obtain ⟨y1, y2, y3⟩ := kept_iff.mp hy
    have ff := y3 x.2 lt x.1 x2
    have yl := (lastF_some.mp y2).1
    have := momAt_lt h.inc ff (by omega)
    refine ⟨decide_eq_true (.inl this), fun e => ?_⟩
    have e1 : momAt L x.1 = momAt L y.1 := congrArg (·.1) e
    omega
theorem allRows_nodup {ps : List Str} {L : List Lk} {p : Str} (hi : (L.map (·.1)).Pairwise (· < ·)) (nd : ps.Nodup) : (allRows ps L p).Nodup := by
  unfold allRows List.Nodup
  rw [List.pairwise_flatMap]
  constructor
  · intro a ha
    have ha := List.mem_range.mp ha
    rw [List.pairwise_flatMap]
    constructor
    · intro i _
      rw [List.pairwise_map]
      refine (nd.filter _).imp fun {x y} hxy e => hxy ?_
      injection e with _ e
      injection e
    · refine (List.Pairwise.and_mem.mp (List.pairwise_lt_range (n := L.length - (a + 1)))).imp fun {i j} hij x hx y hy e => ?_
      obtain ⟨h1, h2, lt⟩ := hij
      have h2 := List.mem_range.mp h2
      obtain ⟨o, _, rfl⟩ := List.mem_map.mp hx
      obtain ⟨o', _, rfl⟩ := List.mem_map.mp hy
      have := momAt_lt hi (i := a + 1 + i) (j := a + 1 + j) (by omega) (by omega)
      have e1 : momAt L (a + 1 + i) = momAt L (a + 1 + j) := congrArg (·.2.1) e
      omega
  · refine (List.Pairwise.and_mem.mp (List.pairwise_lt_range (n := L.length))).imp fun {a b} hab x hx y hy e => ?_
    obtain ⟨h1, h2, lt⟩ := hab
    have h2 := List.mem_range.mp h2
    obtain ⟨i, _, hx⟩ := List.mem_flatMap.mp hx
    obtain ⟨j, _, hy⟩ := List.mem_flatMap.mp hy
    obtain ⟨o, _, rfl⟩ := List.mem_map.mp hx
    obtain ⟨o', _, rfl⟩ := List.mem_map.mp hy
    have := momAt_lt hi lt h2
    have e1 : momAt L a = momAt L b := congrArg (·.1) e
    omega
theorem least_sorted {s : Sg} {ps : List Str} {L : List Lk} {p : Str} (h : Fits s ps L) (hp : p ∈ ps) (nd : ps.Nodup) : (lawMin (allRows ps L p)).mergeSort leS3 = s.least p := by
  have pw := least_pw h hp nd
  have n1 : (s.least p).Nodup := pw.imp fun h => h.2
  have n2 : (lawMin (allRows ps L p)).Nodup := (allRows_nodup h.inc nd).filter _
  have pm : (lawMin (allRows ps L p)).Perm (s.least p) := (List.perm_ext_iff_of_nodup n2 n1).mpr fun x => (least_mem h hp).symm
  exact ((List.mergeSort_perm _ _).trans pm).eq_of_pairwise (le := fun a b => leS3 a b = true) (fun _ _ _ _ h1 h2 => leS3_antis h1 h2) (List.pairwise_mergeSort (le := leS3) (fun _ _ _ => leS3_trans) leS3_total _) (pw.imp fun h => h.1)
def sinceOf (L : List Lk) (p : Str) : Nat → Nat
  | 0 => 0
  | k + 1 => if p ∈ topsAt L k then k else sinceOf L p k
theorem since_spec {L : List Lk} {p : Str} : ∀ k, (sinceOf L p k = 0 ∨ (sinceOf L p k < k ∧ p ∈ topsAt L (sinceOf L p k))) ∧ ∀ i < k, p ∈ topsAt L i → i ≤ sinceOf L p k
  | 0 => ⟨.inl rfl, fun i h => absurd h (Nat.not_lt_zero i)⟩
  | k + 1 => by
    obtain ⟨h1, h2⟩ := since_spec (L := L) (p := p) k
    unfold sinceOf
    by_cases c : p ∈ topsAt L k
    · rw [if_pos c]
      exact ⟨.inr ⟨Nat.lt_succ_self k, c⟩, fun i hi _ => by omega⟩
    · rw [if_neg c]
      refine ⟨h1.imp_right fun ⟨a, b⟩ => ⟨by omega, b⟩, fun i hi hp => ?_⟩
      by_cases q : i = k
      · rw [q] at hp; exact absurd hp c
      · exact h2 i (by omega) hp
theorem kab_mem {t : List Str} {a b : Str} (h : kab t a b = true) : a ∈ t := by
  unfold kab knownAbove at h
  by_cases c : a ∈ t
  · exact c
  · rw [if_neg c] at h
    split at h <;> simp at h
theorem kab_either {t : List Str} {a b : Str} (ne : a ≠ b) (h : a ∈ t) : kab t a b = true ∨ kab t b a = true := by
  unfold kab knownAbove
  by_cases c : b ∈ t
  · simp only [h, c, if_true, Option.some.injEq, decide_eq_true_eq]
    by_cases q : t.idxOf a < t.idxOf b
    · exact .inl q
    · right
      have nq : t.idxOf a ≠ t.idxOf b := fun e => by
        have h1 : t[t.idxOf a]? = some a := by rw [List.getElem?_eq_getElem (List.idxOf_lt_length_of_mem h), List.getElem_idxOf]
        have h2 : t[t.idxOf b]? = some b := by rw [List.getElem?_eq_getElem (List.idxOf_lt_length_of_mem c), List.getElem_idxOf]
        rw [e, h2] at h1
        exact ne (Option.some.inj h1).symm
      omega
  · left
    simp [h, c]
theorem kept_since {s : Sg} {ps : List Str} {L : List Lk} {p : Str} {f j : Nat} (h : Fits s ps L) (hp : p ∈ ps) (jl : j < L.length) (hl : lastF ps L p j = some f) :
    (∀ j' < j, ∀ f', lastF ps L p j' = some f' → f' < f) ↔ sinceOf L p j ≤ f := by
  obtain ⟨l1, l2, l3⟩ := lastF_some.mp hl
  obtain ⟨s1, s2⟩ := since_spec (L := L) (p := p) j
  obtain ⟨o, o1, o2, o3, o4⟩ := (good_iff h hp (by omega) jl).mp l2
  constructor
  · intro hk
    by_cases c : sinceOf L p j ≤ f
    · exact c
    · exfalso
      rcases s1 with s1 | ⟨s1, sp⟩
      · omega
      · rcases kab_either (Ne.symm o2) sp with q | q
        · have gd : goodAt ps L p (sinceOf L p j) f = true := (good_iff h hp (by omega) (by omega)).mpr ⟨o, o1, o2, o3, q⟩
          obtain ⟨g, hg, fg⟩ := lastF_ge (by omega) gd
          have := hk _ s1 g hg
          omega
        · have gd : goodAt ps L p j (sinceOf L p j) = true := (good_iff h hp (by omega) jl).mpr ⟨o, o1, o2, q, o4⟩
          rw [l3 _ (by omega) s1] at gd
          cases gd
  · intro hs j' hj f' hf'
    obtain ⟨m1, m2, _⟩ := lastF_some.mp hf'
    obtain ⟨_, _, _, _, o4'⟩ := (good_iff h hp (by omega) (by omega)).mp m2
    have := s2 j' hj (kab_mem o4')
    omega
def localAt (ps : List Str) (L : List Lk) (p : Str) (j : Nat) : Option (Nat × Nat) := match lastF ps L p j with
  | some f => if sinceOf L p j ≤ f then some (f, j) else none
  | none => none
theorem kept_local {s : Sg} {ps : List Str} {L : List Lk} {p : Str} (h : Fits s ps L) (hp : p ∈ ps) : keptIx ps L p = (List.range L.length).filterMap (localAt ps L p) := by
  have p1 : (keptIx ps L p).Pairwise fun x y => x.2 < y.2 := (spanIx_pw ps L p).filter _
  have loc : ∀ {j x}, localAt ps L p j = some x ↔ x.2 = j ∧ lastF ps L p j = some x.1 ∧ sinceOf L p j ≤ x.1 := by
    intro j x
    unfold localAt
    cases e : lastF ps L p j with
    | none => simp
    | some f =>
      by_cases c : sinceOf L p j ≤ f
      · simp only [c, if_true, Option.some.injEq]
        constructor
        · rintro rfl; exact ⟨rfl, rfl, c⟩
        · rintro ⟨e1, e2, _⟩
          obtain ⟨x1, x2⟩ := x
          replace e1 : x2 = j := e1
          replace e2 : f = x1 := e2
          rw [e1, e2]
      · simp only [c, if_false, reduceCtorEq, Option.some.injEq, false_iff]
        rintro ⟨_, e2, h3⟩
        rw [← e2] at h3
        exact c h3
  have p2 : ((List.range L.length).filterMap (localAt ps L p)).Pairwise fun x y => x.2 < y.2 := by
    rw [List.pairwise_filterMap]
    refine (List.pairwise_lt_range (n := L.length)).imp fun {i j} ij x hx y hy => ?_
    rw [(loc.mp hx).1, (loc.mp hy).1]
    exact ij
  have nd : ∀ {xs : List (Nat × Nat)}, xs.Pairwise (fun x y => x.2 < y.2) → xs.Nodup := fun h => h.imp fun h e => by rw [e] at h; omega
  have pm : (keptIx ps L p).Perm ((List.range L.length).filterMap (localAt ps L p)) := (List.perm_ext_iff_of_nodup (nd p1) (nd p2)).mpr fun x => by
    rw [kept_iff, List.mem_filterMap]
    constructor
    · rintro ⟨h1, h2, h3⟩
      exact ⟨x.2, List.mem_range.mpr h1, loc.mpr ⟨rfl, h2, (kept_since h hp h1 h2).mp h3⟩⟩
    · rintro ⟨j, hj, e⟩
      obtain ⟨e1, e2, e3⟩ := loc.mp e
      subst e1
      have hj := List.mem_range.mp hj
      exact ⟨hj, e2, (kept_since h hp hj e2).mpr e3⟩
  exact pm.eq_of_pairwise (le := fun x y => x.2 < y.2) (fun a b _ _ h1 h2 => by omega) p1 p2
theorem least_local {s : Sg} {ps : List Str} {L : List Lk} {p : Str} (h : Fits s ps L) (hp : p ∈ ps) : s.least p = ((List.range L.length).filterMap (localAt ps L p)).flatMap (block s L p) := by
  rw [least_blocks h hp, kept_local h hp]
def apartOk (x y : St3) : Prop := (x.1 = y.1 ∧ x.2.1 = y.2.1) ∨ x.2.1 ≤ y.1
theorem least_apart {s : Sg} {ps : List Str} {L : List Lk} {p : Str} (h : Fits s ps L) (hp : p ∈ ps) : (s.least p).Pairwise apartOk := by
  rw [least_blocks h hp, List.pairwise_flatMap]
  constructor
  · rintro ⟨f, j⟩ _
    unfold block
    rw [List.pairwise_map]
    exact List.pairwise_of_forall fun _ _ => .inl ⟨rfl, rfl⟩
  · have pw : (keptIx ps L p).Pairwise fun x y => x.2 < y.2 := (spanIx_pw ps L p).filter _
    refine (List.Pairwise.and_mem.mp pw).imp fun {x y} hxy a ha b hb => ?_
    obtain ⟨hx, hy, lt⟩ := hxy
    obtain ⟨o, ho, rfl⟩ := List.mem_map.mp ha
    obtain ⟨o', _, rfl⟩ := List.mem_map.mp hb
    obtain ⟨x1, x2, x3⟩ := kept_iff.mp hx
    obtain ⟨y1, y2, y3⟩ := kept_iff.mp hy
    have k := (kept_since h hp y1 y2).mp y3
    have l := (lastF_some.mp x2).1
    have yl := (lastF_some.mp y2).1
    have r := (found_mem h (by omega) x1).mp (ssort_mem.mp ho)
    have := (since_spec (L := L) (p := p) y.2).2 x.2 lt (kab_mem r.2.2.2)
    exact .inr ((momAt_le h.inc x1 (by omega)).mpr (by omega))
end Sp
namespace Sp
open PySem L2 DL
local macro_rules | `(tactic| walk_at "wp") => `(tactic| simp only [wSeq, wIf, wAnd, wOr, wNot, vAnd, vOr, vNot, wB, wBin, wChain, wRet, wRetN, wNext, wNever, wIfE, eF, fO, fS, wNeg, wC, wVar, oVar, wDrop, wSet, wNil, wCons, wLst, wTup, wCall, wFn, wFnP,  wTwo, wThree, wPar, wPar3, wUn, wgN, wgTup, wgCons, wgNil, wAugI, wIsN, sIsN, nonB, wXf, wRaise, wMet, tyOk, sLen, sToInt, sList, sListD, sTuple, sAdd, sInt, sInt0, sIn, sEq, sEqD, sEqX_nil, sEqX_str, sEqX_int, sEqX_bl, sEqX_non, sEqX_sL, sEqX_iL, sEqX_sT, List.isEmpty_map, flt_all, List.isEmpty_nil, List.isEmpty_cons, sIx, sCut, wCut, wNoP, wSoP, wYes, wBreak, wCont, wApp, wPopAt, wIns, wRevM, wClr, wListRg, wCutS, sMulS, wFnL3, wRetO, wCutT, wLend, lentD, nlSD, plSD, wNewT, wPutT, wInT, wBN, asBN, wPut, wFld, wMeth, wMake, wSetF, putD, nons, wIxD, wInD, wGet2, wNewD, wPutD, wEqO, wMin2, wMax2, wMaxLen, wRev, keyD,  wiSeq, wiTup, wiStr, wiRng1, wiRng2, wiEnum, outSlot,  view, SD.fz, Cn.fz, D.strip, asB, ownOf, keepKind, argsD, finD, finE, backD, startD, wipeD, unblk,  isi_list_lst, isi_list_tup, isi_list_str, isi_list_int, isi_list_bl, isi_list_non, isi_list_dic, isi_tup_lst, isi_tup_tup, isi_tup_str, isi_tup_int, isi_tup_bl, isi_tup_non, isi_tup_dic, isi_str_lst, isi_str_tup, isi_str_str, isi_str_int, isi_str_bl, isi_str_non, isi_str_dic,  isi_int_lst, isi_int_tup, isi_int_str, isi_int_int, isi_int_bl, isi_int_non, isi_int_dic, isi_bl_lst, isi_bl_tup, isi_bl_str, isi_bl_int, isi_bl_bl, isi_bl_non, isi_bl_dic,  eqOk_str, eqOk_int, eqOk_bl, eqOk_non, eqOk_sL, eqOk_iL, eqOk_nil, eqOk_nilT, deq_str, deq_int, deq_non, deq_sL, deq_iL, deq_sL_nil, deq_iL_nil, dmem_str, dmem_int, some_strs, some_ints, sIndex_str, sIndex_int, sJoin_str, sSum_int, sSorted_str, sSorted_int, keys_I, keys_S, valG_I, valG_S, putG_I, putG_S, encA_len, Option.isSome_map, PySem.sizeLine_eq,  List.getElem?_cons_succ, List.getElem?_cons_zero, List.getElem?_nil, List.set_cons_succ, List.set_cons_zero, List.length_cons, List.length_nil, List.length_map, List.length_append, List.map_cons, List.map_nil, List.cons_append, List.nil_append, List.replicate_succ, List.replicate_zero, List.getD_cons_succ, List.getD_cons_zero, List.lookup_cons, List.lookup_nil, nm_players_crew, nm_moments_crew, nm_tops_crew, nm_above_crew, nm_check_moment_crew, nm_with_look_crew, nm_all_looks_crew, nm_until_crew, nm_renamed_crew, nm_is_pair_crew, nm_rows_crew, nm_least_at_crew, nm_most_at_crew, nm_seen_crew, nm_folk_crew, nm_shown_crew, nm_notes_crew, nm_count_crew, nm_total_crew, nm_look_crew, nm_undo_crew, nm_copy_crew, nm_sight_crew, nm_players_seen, nm_moments_seen, nm_tops_seen, nm_above_seen, nm_check_moment_seen, nm_with_look_seen, nm_all_looks_seen, nm_until_seen, nm_renamed_seen, nm_is_pair_seen, nm_rows_seen, nm_least_at_seen, nm_most_at_seen, nm_crew_seen, nm_folk_seen, nm_shown_seen, nm_notes_seen, nm_count_seen, nm_total_seen, nm_look_seen, nm_undo_seen, nm_copy_seen, nm_sight_seen, nm_players_folk, nm_moments_folk, nm_tops_folk, nm_above_folk, nm_check_moment_folk, nm_with_look_folk, nm_all_looks_folk, nm_until_folk, nm_renamed_folk, nm_is_pair_folk, nm_rows_folk, nm_least_at_folk, nm_most_at_folk, nm_crew_folk, nm_seen_folk, nm_shown_folk, nm_notes_folk, nm_count_folk, nm_total_folk, nm_look_folk, nm_undo_folk, nm_copy_folk, nm_sight_folk, nm_players_shown, nm_moments_shown, nm_tops_shown, nm_above_shown, nm_check_moment_shown, nm_with_look_shown, nm_all_looks_shown, nm_until_shown, nm_renamed_shown, nm_is_pair_shown, nm_rows_shown, nm_least_at_shown, nm_most_at_shown, nm_crew_shown, nm_seen_shown, nm_folk_shown, nm_notes_shown, nm_count_shown, nm_total_shown, nm_look_shown, nm_undo_shown, nm_copy_shown, nm_sight_shown, nm_players_notes, nm_moments_notes, nm_tops_notes, nm_above_notes, nm_check_moment_notes, nm_with_look_notes, nm_all_looks_notes, nm_until_notes, nm_renamed_notes, nm_is_pair_notes, nm_rows_notes, nm_least_at_notes, nm_most_at_notes, nm_crew_notes, nm_seen_notes, nm_folk_notes, nm_shown_notes, nm_count_notes, nm_total_notes, nm_look_notes, nm_undo_notes, nm_copy_notes, nm_sight_notes,  Nat.reduceAdd, Nat.reduceSub, Nat.reduceLT, Nat.reduceLeDiff, Nat.reduceMul, Nat.reduceEqDiff, Nat.zero_add, Nat.add_zero, Nat.lt_add_left_iff_pos, Nat.le_add_left, Nat.zero_le, Nat.zero_lt_succ, Nat.succ_lt_succ_iff,  Cn.l.injEq, Cn.k.injEq, true_and, and_true, exists_eq', exists_eq_left', Option.some.injEq, Option.map_some, Option.map_none, Option.bind_some, Option.isSome_some, Option.isSome_none,  decide_eq_true_eq, Bool.false_eq_true, Bool.not_eq_true', Bool.not_true, Bool.not_false, Bool.not_not, Bool.true_xor, Bool.false_xor, decide_eq_false_iff_not, if_true, if_false, ite_true, ite_false, reduceIte, reduceCtorEq, decide_true, decide_false, decide_not, and_self, eq_self, ne_eq, not_true, not_false_eq_true, exists_const, and_imp, beq_self_eq_true])
local macro_rules | `(tactic| walk_at "wq") => `(tactic| try walk_at "wp")
local macro_rules | `(tactic| walk_at "w1") => `(tactic| simp only [wSeq_k, wIf, wAnd, wOr, wNot, vAnd, vOr, vNot, wB, wBin, wChain, wRet, wRetN, wNext, wNever, wIfE, eF, fO, fS, wNeg, wC, wVar, oVar, wDrop, wSet, wNil, wCons, wLst, wTup, wCall, wFn, wFnP,  wTwo, wThree, wPar, wPar3, wUn, wgN, wgTup, wgCons, wgNil, wAugI, wIsN, sIsN, nonB, wXf, wRaise, wMet, tyOk, sLen, sToInt, sList, sListD, sTuple, sAdd, sInt, sInt0, sIn, sEq, sEqD, sEqX_nil, sEqX_str, sEqX_int, sEqX_bl, sEqX_non, sEqX_sL, sEqX_iL, sEqX_sT, List.isEmpty_map, flt_all, List.isEmpty_nil, List.isEmpty_cons, sIx, sCut, wCut, wNoP, wSoP, wYes, wBreak, wCont, wApp, wPopAt, wIns, wRevM, wClr, wListRg, wCutS, sMulS, wFnL3, wRetO, wCutT, wLend, lentD, nlSD, plSD, wNewT, wPutT, wInT, wBN, asBN, wPut, wFld, wMeth, wMake, wSetF, putD, nons, wIxD, wInD, wGet2, wNewD, wPutD, wEqO, wMin2, wMax2, wMaxLen, wRev, keyD,  wiSeq, wiTup, wiStr, wiRng1, wiRng2, wiEnum, outSlot,  view, SD.fz, Cn.fz, D.strip, asB, ownOf, keepKind, argsD, finD, finE, backD, startD, wipeD, unblk,  isi_list_lst, isi_list_tup, isi_list_str, isi_list_int, isi_list_bl, isi_list_non, isi_list_dic, isi_tup_lst, isi_tup_tup, isi_tup_str, isi_tup_int, isi_tup_bl, isi_tup_non, isi_tup_dic, isi_str_lst, isi_str_tup, isi_str_str, isi_str_int, isi_str_bl, isi_str_non, isi_str_dic,  isi_int_lst, isi_int_tup, isi_int_str, isi_int_int, isi_int_bl, isi_int_non, isi_int_dic, isi_bl_lst, isi_bl_tup, isi_bl_str, isi_bl_int, isi_bl_bl, isi_bl_non, isi_bl_dic,  eqOk_str, eqOk_int, eqOk_bl, eqOk_non, eqOk_sL, eqOk_iL, eqOk_nil, eqOk_nilT, deq_str, deq_int, deq_non, deq_sL, deq_iL, deq_sL_nil, deq_iL_nil, dmem_str, dmem_int, some_strs, some_ints, sIndex_str, sIndex_int, sJoin_str, sSum_int, sSorted_str, sSorted_int, keys_I, keys_S, valG_I, valG_S, putG_I, putG_S, encA_len, Option.isSome_map, PySem.sizeLine_eq,  List.getElem?_cons_succ, List.getElem?_cons_zero, List.getElem?_nil, List.set_cons_succ, List.set_cons_zero, List.length_cons, List.length_nil, List.length_map, List.length_append, List.map_cons, List.map_nil, List.cons_append, List.nil_append, List.replicate_succ, List.replicate_zero, List.getD_cons_succ, List.getD_cons_zero, List.lookup_cons, List.lookup_nil, nm_players_crew, nm_moments_crew, nm_tops_crew, nm_above_crew, nm_check_moment_crew, nm_with_look_crew, nm_all_looks_crew, nm_until_crew, nm_renamed_crew, nm_is_pair_crew, nm_rows_crew, nm_least_at_crew, nm_most_at_crew, nm_seen_crew, nm_folk_crew, nm_shown_crew, nm_notes_crew, nm_count_crew, nm_total_crew, nm_look_crew, nm_undo_crew, nm_copy_crew, nm_sight_crew, nm_players_seen, nm_moments_seen, nm_tops_seen, nm_above_seen, nm_check_moment_seen, nm_with_look_seen, nm_all_looks_seen, nm_until_seen, nm_renamed_seen, nm_is_pair_seen, nm_rows_seen, nm_least_at_seen, nm_most_at_seen, nm_crew_seen, nm_folk_seen, nm_shown_seen, nm_notes_seen, nm_count_seen, nm_total_seen, nm_look_seen, nm_undo_seen, nm_copy_seen, nm_sight_seen, nm_players_folk, nm_moments_folk, nm_tops_folk, nm_above_folk, nm_check_moment_folk, nm_with_look_folk, nm_all_looks_folk, nm_until_folk, nm_renamed_folk, nm_is_pair_folk, nm_rows_folk, nm_least_at_folk, nm_most_at_folk, nm_crew_folk, nm_seen_folk, nm_shown_folk, nm_notes_folk, nm_count_folk, nm_total_folk, nm_look_folk, nm_undo_folk, nm_copy_folk, nm_sight_folk, nm_players_shown, nm_moments_shown, nm_tops_shown, nm_above_shown, nm_check_moment_shown, nm_with_look_shown, nm_all_looks_shown, nm_until_shown, nm_renamed_shown, nm_is_pair_shown, nm_rows_shown, nm_least_at_shown, nm_most_at_shown, nm_crew_shown, nm_seen_shown, nm_folk_shown, nm_notes_shown, nm_count_shown, nm_total_shown, nm_look_shown, nm_undo_shown, nm_copy_shown, nm_sight_shown, nm_players_notes, nm_moments_notes, nm_tops_notes, nm_above_notes, nm_check_moment_notes, nm_with_look_notes, nm_all_looks_notes, nm_until_notes, nm_renamed_notes, nm_is_pair_notes, nm_rows_notes, nm_least_at_notes, nm_most_at_notes, nm_crew_notes, nm_seen_notes, nm_folk_notes, nm_shown_notes, nm_count_notes, nm_total_notes, nm_look_notes, nm_undo_notes, nm_copy_notes, nm_sight_notes,  Nat.reduceAdd, Nat.reduceSub, Nat.reduceLT, Nat.reduceLeDiff, Nat.reduceMul, Nat.reduceEqDiff, Nat.zero_add, Nat.add_zero, Nat.lt_add_left_iff_pos, Nat.le_add_left, Nat.zero_le, Nat.zero_lt_succ, Nat.succ_lt_succ_iff,  Cn.l.injEq, Cn.k.injEq, true_and, and_true, exists_eq', exists_eq_left', Option.some.injEq, Option.map_some, Option.map_none, Option.bind_some, Option.isSome_some, Option.isSome_none,  decide_eq_true_eq, Bool.false_eq_true, Bool.not_eq_true', Bool.not_true, Bool.not_false, Bool.not_not, Bool.true_xor, Bool.false_xor, decide_eq_false_iff_not, if_true, if_false, ite_true, ite_false, reduceIte, reduceCtorEq, decide_true, decide_false, decide_not, and_self, eq_self, ne_eq, not_true, not_false_eq_true, exists_const, and_imp, beq_self_eq_true])
local macro_rules | `(tactic| walk_at "ws") => `(tactic| repeat (first | refine kont_intro ?_ | walk_at "w1"))
def ds_least_of_2 (K : PySem.W.Frag) : DSp := fun α Q _ => ∃ (s : Sg) (p : Str), α = [some (.d (s.d K)), some (.d (.str p))] ∧ Sm s ∧ Q (.o (.l ((s.least p).map encS))) α
theorem len_least_of_2 (K : PySem.W.Frag) (α : Dl) (Q : SD → Dl → Prop) (E : XQ) (h : ds_least_of_2 K α Q E) : α.length = 2 ∧ ∀ (i : Nat) (c : Cn), α[i]? ≠ some (some (.o c)) := by
  obtain ⟨s, p, rfl, _⟩ := h
  exact lenOf rfl rfl
theorem law_least_of_2 (K : PySem.W.Frag) (α : Dl) (Q : SD → Dl → Prop) (E : XQ) (h : ds_least_of_2 K α Q E) : ws_least_of_2 (ds_steps_of K) (ds_begins_before K) { nx := finD α Q (.d .non), rt := finD α Q } (finE α E) (startD N_least_of_2 α) := by
  obtain ⟨s, p, rfl, sm, hq⟩ := h
  have cl := sm.crew
  have ml := sm.mom
  have hs : ∀ e ∈ s.steps, s.has e = true := fun e he => mem_mom.mp (List.mem_of_mem_drop he)
  unfold ws_least_of_2 ws_least_of_2_t1 ws_least_of_2_t2
  walk_at "wp"
  refine for_map s.steps .int (fun pre δ => ∃ r4 r5 r6 r7, Jn r7 ∧ δ = [some (.d (s.d K)), some (.d (.str p)), some (.o (.l ((pre.foldl (leastStep s p) ([], none)).1.map encS))), some (.d (optI (pre.foldl (leastStep s p) ([], none)).2)), r4, r5, r6, r7]) (fun Q h => by walk_at "wp"; exact ⟨s, rfl, by walk_at "wp"; exact h⟩) ⟨none, none, none, none, .no, rfl⟩ ?_ ?_
  · rintro pre e post δ' ex ⟨r4, r5, r6, r7, j7, rfl⟩
    have he := hs e (by rw [ex]; simp)
    rw [List.foldl_append, List.foldl_cons, List.foldl_nil]
    have al := least_len (s := s) (p := p) pre ([], none)
    have pl : pre.length ≤ 200 := by
      have h1 : s.steps.length ≤ 200 := by unfold Sg.steps; rw [List.length_drop]; omega
      rw [ex, List.length_append] at h1
      omega
    have al2 : (pre.foldl (leastStep s p) ([], none)).1.length ≤ 20000 := by
      refine Nat.le_trans al ?_
      have := Nat.mul_le_mul cl pl
      simp only [List.length_nil]
      omega
    generalize pre.foldl (leastStep s p) ([], none) = a at al2
    unfold ws_least_of_2_b1
    walk_at "wp"
    refine ⟨s, p, e, rfl, sm, he, ?_⟩
    unfold leastStep
    cases eb : s.begins p e with
    | none =>
      unfold encB
      walk_at "wp"
      exact ⟨_, _, _, _, j7, rfl⟩
    | some bl =>
      obtain ⟨b, l⟩ := bl
      have ll := begins_len eb
      have lc : ∀ (dl : D) (Q' : SD → Dl → Prop) (E' : XQ), (Q' (.o (.l (((ssort l).map fun o => (b, e, o)).map encS))) [some (.d (s.d K)), some (.d (.str p)), some (.o (.l (a.1.map encS))), some (.d dl), some (.d (.int e)), some (.d (.int b)), some (.d (sL l)), r7]) →
          wLc (wiSeq (eF (wCall sSorted (oVar 6)))) (wgN 7) wYes (eF (wTup (wCons (wVar 5) (wCons (wVar 4) (wCons (wVar 7) wNil))))) [7] [some (.d (s.d K)), some (.d (.str p)), some (.o (.l (a.1.map encS))), some (.d dl), some (.d (.int e)), some (.d (.int b)), some (.d (sL l)), r7] Q' E' := by
        intro dl Q' E' q
        refine lc_map (ssort l) .str (fun o => (b, e, o)) encS (fun Q h => by walk_at "wp"; exact h) (by rw [ssort_len]; omega) (okW_one rfl j7) (fun y hy R S hR => ?_) q
        walk_at "wp"
        exact hR
      unfold encB
      obtain ⟨xs, lo⟩ := a
      cases lo with
      | none =>
        unfold optI
        walk_at "wp"
        refine lc _ _ _ ?_
        walk_at "wp"
        rw [ssort_len]
        replace al2 : xs.length ≤ 20000 := al2
        exact ⟨by omega, _, _, _, _, j7, by rw [← List.map_append]; rfl⟩
      | some z =>
        unfold optI
        walk_at "wp"
        by_cases c : z < b
        · simp only [Option.all_some, c, decide_true, if_true]
          refine lc _ _ _ ?_
          walk_at "wp"
          rw [ssort_len]
          replace al2 : xs.length ≤ 20000 := al2
          exact ⟨by omega, _, _, _, _, j7, by rw [← List.map_append]⟩
        · simp only [Option.all_some, c, decide_false, Bool.false_eq_true, if_false]
          exact ⟨_, _, _, _, j7, rfl⟩
  · rintro δ' ⟨r4, r5, r6, r7, j7, rfl⟩
    unfold ws_least_of_2_t3
    walk_at "wp"
    exact hq
def ds_stretches (K : PySem.W.Frag) : DSp := fun α Q _ => ∃ (s : Sg) (p : Str), α = [some (.d (s.d K)), some (.d (.str p))] ∧ Sm s ∧ p ∈ s.crew ∧ nameB p = true ∧ Q (.o (.l ((s.least p).map encS))) α
theorem len_stretches (K : PySem.W.Frag) (α : Dl) (Q : SD → Dl → Prop) (E : XQ) (h : ds_stretches K α Q E) : α.length = 2 ∧ ∀ (i : Nat) (c : Cn), α[i]? ≠ some (some (.o c)) := by
  obtain ⟨s, p, rfl, _⟩ := h
  exact lenOf rfl rfl
theorem vld_name {p : Str} (h : nameB p = true) : vld (.str p) = true := by
  have := nameB_len h
  simp only [vld, decide_eq_true_eq]
  omega
theorem law_stretches (K : PySem.W.Frag) (α : Dl) (Q : SD → Dl → Prop) (E : XQ) (h : ds_stretches K α Q E) :
    ws_stretches (ds_check_sight K) (ds_check_player K) (ds_least_of_2 K) { nx := finD α Q (.d .non), rt := finD α Q } (finE α E) (startD N_stretches α) := by
  obtain ⟨s, p, rfl, sm, hp, np, hq⟩ := h
  unfold ws_stretches ws_stretches_t1
  walk_at "wp"
  refine ⟨s, rfl, ?_⟩
  walk_at "wp"
  refine ⟨s, .str p, rfl, vld_name np, fun h => absurd h (by show ¬ (nameB p = false); rw [np]; decide), fun z hz hn => ?_⟩
  cases hz
  rw [if_pos hp]
  unfold ws_stretches_t2
  walk_at "wp"
  refine ⟨s, p, rfl, sm, ?_⟩
  walk_at "wp"
  exact hq
structure WildOf (ps : List Str) (L : List Lk) : Prop where
  inc : (L.map (·.1)).Pairwise (· < ·)
  pre : ∀ p ∈ L, ∃ o : List Str, o.Perm ps ∧ ∃ k, p.2 = o.take k
def ds_l_wild : DSp := fun α Q _ => ∃ (n many : Int) (ps : List Str), α = [some (.p (.l [.int n])), some (.d (sL ps)), some (.d (.int many))] ∧ ps.length ≤ 100 ∧ 0 ≤ many ∧ many ≤ 100 ∧
  ∀ (n' : Int) (L L0 : List Lk), (L0.length : Int) = many → L.Perm L0 → WildOf ps L0 → Q (.d (.lst (L.map encL))) [some (.p (.l [.int n'])), some (.d (sL ps)), some (.d (.int many))]
theorem len_l_wild (α : Dl) (Q : SD → Dl → Prop) (E : XQ) (h : ds_l_wild α Q E) : α.length = 3 ∧ ∀ (i : Nat) (c : Cn), α[i]? ≠ some (some (.o c)) := by
  obtain ⟨n, m, x, rfl, _⟩ := h
  exact lenOf rfl rfl
theorem law_l_wild (α : Dl) (Q : SD → Dl → Prop) (E : XQ) (h : ds_l_wild α Q E) : ws_l_wild ds_l_cup ds_l_mixed { nx := finD α Q (.d .non), rt := finD α Q } (finE α E) (startD N_l_wild α) := by
  obtain ⟨n, many, ps, rfl, pl, m0, m1, hq⟩ := h
  unfold ws_l_wild ws_l_wild_t1
  walk_at "wp"
  refine use_cup (by omega) (by omega) fun n1 j j0 j1 => ?_
  walk_at "wp"
  refine for_rng many.toNat (fun i δ => ∃ (n' mom : Int) (L : List Lk) (r5 : Option SD), L.length = i ∧ WildOf ps L ∧ (∀ p ∈ L, p.1 ≤ mom) ∧
    δ = [some (.p (.l [.int n'])), some (.d (sL ps)), some (.d (.int many)), some (.o (.l (L.map encL))), some (.d (.int mom)), r5]) (fun Q h => by walk_at "wp"; exact ⟨⟨by omega, by omega⟩, h⟩)
    ⟨n1, j - 4, [], none, rfl, ⟨.nil, fun p h => (nomatch h)⟩, (fun p h => (nomatch h)), rfl⟩ ?_ ?_
  · rintro i δ' hi ⟨n', mom, L, r5, lL, hL, lt, rfl⟩
    unfold ws_l_wild_b1
    walk_at "wp"
    refine use_cup (by omega) (by omega) fun n2 k k0 k1 => ?_
    walk_at "wp"
    refine use_mixed (f := .str) (by omega) fun n3 o pm => ?_
    walk_at "wp"
    refine use_cup (by omega) (by omega) fun n4 z z0 z1 => ?_
    walk_at "wp"
    rw [cut_to _ z0, ← List.map_take]
    refine ⟨by omega, n4, mom + 1 + k, L ++ [(mom + 1 + k, o.take z.toNat)], _, by rw [List.length_append, lL]; rfl, ⟨?_, fun p hp => ?_⟩, fun p hp => ?_, by rw [List.map_append]; rfl⟩
    · rw [List.map_append, List.pairwise_append]
      refine ⟨hL.inc, by simp, fun x hx y hy => ?_⟩
      obtain ⟨p, hp, rfl⟩ := List.mem_map.mp hx
      simp only [List.map_cons, List.map_nil, List.mem_singleton] at hy
      rw [hy]
      have := lt p hp
      show p.1 < _
      omega
    · rcases List.mem_append.mp hp with hp | hp
      · exact hL.pre p hp
      · rw [List.mem_singleton.mp hp]
        exact ⟨o, pm, z.toNat, rfl⟩
    · rcases List.mem_append.mp hp with hp | hp
      · have := lt p hp; omega
      · rw [List.mem_singleton.mp hp]; exact Int.le_refl _
  · rintro δ' ⟨n', mom, L, r5, lL, hL, lt, rfl⟩
    unfold ws_l_wild_t2
    walk_at "wp"
    refine use_mixed (f := encL) (by omega) fun n2 L' pm => ?_
    walk_at "wp"
    exact hq n2 L' L (by omega) pm hL
end Sp
namespace Sp
open PySem L2 DL
local macro_rules | `(tactic| walk_at "wp") => `(tactic| simp only [wSeq, wIf, wAnd, wOr, wNot, vAnd, vOr, vNot, wB, wBin, wChain, wRet, wRetN, wNext, wNever, wIfE, eF, fO, fS, wNeg, wC, wVar, oVar, wDrop, wSet, wNil, wCons, wLst, wTup, wCall, wFn, wFnP,  wTwo, wThree, wPar, wPar3, wUn, wgN, wgTup, wgCons, wgNil, wAugI, wIsN, sIsN, nonB, wXf, wRaise, wMet, tyOk, sLen, sToInt, sList, sListD, sTuple, sAdd, sInt, sInt0, sIn, sEq, sEqD, sEqX_nil, sEqX_str, sEqX_int, sEqX_bl, sEqX_non, sEqX_sL, sEqX_iL, sEqX_sT, List.isEmpty_map, flt_all, List.isEmpty_nil, List.isEmpty_cons, sIx, sCut, wCut, wNoP, wSoP, wYes, wBreak, wCont, wApp, wPopAt, wIns, wRevM, wClr, wListRg, wCutS, sMulS, wFnL3, wRetO, wCutT, wLend, lentD, nlSD, plSD, wNewT, wPutT, wInT, wBN, asBN, wPut, wFld, wMeth, wMake, wSetF, putD, nons, wIxD, wInD, wGet2, wNewD, wPutD, wEqO, wMin2, wMax2, wMaxLen, wRev, keyD,  wiSeq, wiTup, wiStr, wiRng1, wiRng2, wiEnum, outSlot,  view, SD.fz, Cn.fz, D.strip, asB, ownOf, keepKind, argsD, finD, finE, backD, startD, wipeD, unblk,  isi_list_lst, isi_list_tup, isi_list_str, isi_list_int, isi_list_bl, isi_list_non, isi_list_dic, isi_tup_lst, isi_tup_tup, isi_tup_str, isi_tup_int, isi_tup_bl, isi_tup_non, isi_tup_dic, isi_str_lst, isi_str_tup, isi_str_str, isi_str_int, isi_str_bl, isi_str_non, isi_str_dic,  isi_int_lst, isi_int_tup, isi_int_str, isi_int_int, isi_int_bl, isi_int_non, isi_int_dic, isi_bl_lst, isi_bl_tup, isi_bl_str, isi_bl_int, isi_bl_bl, isi_bl_non, isi_bl_dic,  eqOk_str, eqOk_int, eqOk_bl, eqOk_non, eqOk_sL, eqOk_iL, eqOk_nil, eqOk_nilT, deq_str, deq_int, deq_non, deq_sL, deq_iL, deq_sL_nil, deq_iL_nil, dmem_str, dmem_int, some_strs, some_ints, sIndex_str, sIndex_int, sJoin_str, sSum_int, sSorted_str, sSorted_int, keys_I, keys_S, valG_I, valG_S, putG_I, putG_S, encA_len, Option.isSome_map, PySem.sizeLine_eq,  List.getElem?_cons_succ, List.getElem?_cons_zero, List.getElem?_nil, List.set_cons_succ, List.set_cons_zero, List.length_cons, List.length_nil, List.length_map, List.length_append, List.map_cons, List.map_nil, List.cons_append, List.nil_append, List.replicate_succ, List.replicate_zero, List.getD_cons_succ, List.getD_cons_zero, List.lookup_cons, List.lookup_nil, nm_players_crew, nm_moments_crew, nm_tops_crew, nm_above_crew, nm_check_moment_crew, nm_with_look_crew, nm_all_looks_crew, nm_until_crew, nm_renamed_crew, nm_is_pair_crew, nm_rows_crew, nm_least_at_crew, nm_most_at_crew, nm_seen_crew, nm_folk_crew, nm_shown_crew, nm_notes_crew, nm_count_crew, nm_total_crew, nm_look_crew, nm_undo_crew, nm_copy_crew, nm_sight_crew, nm_players_seen, nm_moments_seen, nm_tops_seen, nm_above_seen, nm_check_moment_seen, nm_with_look_seen, nm_all_looks_seen, nm_until_seen, nm_renamed_seen, nm_is_pair_seen, nm_rows_seen, nm_least_at_seen, nm_most_at_seen, nm_crew_seen, nm_folk_seen, nm_shown_seen, nm_notes_seen, nm_count_seen, nm_total_seen, nm_look_seen, nm_undo_seen, nm_copy_seen, nm_sight_seen, nm_players_folk, nm_moments_folk, nm_tops_folk, nm_above_folk, nm_check_moment_folk, nm_with_look_folk, nm_all_looks_folk, nm_until_folk, nm_renamed_folk, nm_is_pair_folk, nm_rows_folk, nm_least_at_folk, nm_most_at_folk, nm_crew_folk, nm_seen_folk, nm_shown_folk, nm_notes_folk, nm_count_folk, nm_total_folk, nm_look_folk, nm_undo_folk, nm_copy_folk, nm_sight_folk, nm_players_shown, nm_moments_shown, nm_tops_shown, nm_above_shown, nm_check_moment_shown, nm_with_look_shown, nm_all_looks_shown, nm_until_shown, nm_renamed_shown, nm_is_pair_shown, nm_rows_shown, nm_least_at_shown, nm_most_at_shown, nm_crew_shown, nm_seen_shown, nm_folk_shown, nm_notes_shown, nm_count_shown, nm_total_shown, nm_look_shown, nm_undo_shown, nm_copy_shown, nm_sight_shown, nm_players_notes, nm_moments_notes, nm_tops_notes, nm_above_notes, nm_check_moment_notes, nm_with_look_notes, nm_all_looks_notes, nm_until_notes, nm_renamed_notes, nm_is_pair_notes, nm_rows_notes, nm_least_at_notes, nm_most_at_notes, nm_crew_notes, nm_seen_notes, nm_folk_notes, nm_shown_notes, nm_count_notes, nm_total_notes, nm_look_notes, nm_undo_notes, nm_copy_notes, nm_sight_notes,  Nat.reduceAdd, Nat.reduceSub, Nat.reduceLT, Nat.reduceLeDiff, Nat.reduceMul, Nat.reduceEqDiff, Nat.zero_add, Nat.add_zero, Nat.lt_add_left_iff_pos, Nat.le_add_left, Nat.zero_le, Nat.zero_lt_succ, Nat.succ_lt_succ_iff,  Cn.l.injEq, Cn.k.injEq, true_and, and_true, exists_eq', exists_eq_left', Option.some.injEq, Option.map_some, Option.map_none, Option.bind_some, Option.isSome_some, Option.isSome_none,  decide_eq_true_eq, Bool.false_eq_true, Bool.not_eq_true', Bool.not_true, Bool.not_false, Bool.not_not, Bool.true_xor, Bool.false_xor, decide_eq_false_iff_not, if_true, if_false, ite_true, ite_false, reduceIte, reduceCtorEq, decide_true, decide_false, decide_not, and_self, eq_self, ne_eq, not_true, not_false_eq_true, exists_const, and_imp, beq_self_eq_true])
local macro_rules | `(tactic| walk_at "wq") => `(tactic| try walk_at "wp")
local macro_rules | `(tactic| walk_at "w1") => `(tactic| simp only [wSeq_k, wIf, wAnd, wOr, wNot, vAnd, vOr, vNot, wB, wBin, wChain, wRet, wRetN, wNext, wNever, wIfE, eF, fO, fS, wNeg, wC, wVar, oVar, wDrop, wSet, wNil, wCons, wLst, wTup, wCall, wFn, wFnP,  wTwo, wThree, wPar, wPar3, wUn, wgN, wgTup, wgCons, wgNil, wAugI, wIsN, sIsN, nonB, wXf, wRaise, wMet, tyOk, sLen, sToInt, sList, sListD, sTuple, sAdd, sInt, sInt0, sIn, sEq, sEqD, sEqX_nil, sEqX_str, sEqX_int, sEqX_bl, sEqX_non, sEqX_sL, sEqX_iL, sEqX_sT, List.isEmpty_map, flt_all, List.isEmpty_nil, List.isEmpty_cons, sIx, sCut, wCut, wNoP, wSoP, wYes, wBreak, wCont, wApp, wPopAt, wIns, wRevM, wClr, wListRg, wCutS, sMulS, wFnL3, wRetO, wCutT, wLend, lentD, nlSD, plSD, wNewT, wPutT, wInT, wBN, asBN, wPut, wFld, wMeth, wMake, wSetF, putD, nons, wIxD, wInD, wGet2, wNewD, wPutD, wEqO, wMin2, wMax2, wMaxLen, wRev, keyD,  wiSeq, wiTup, wiStr, wiRng1, wiRng2, wiEnum, outSlot,  view, SD.fz, Cn.fz, D.strip, asB, ownOf, keepKind, argsD, finD, finE, backD, startD, wipeD, unblk,  isi_list_lst, isi_list_tup, isi_list_str, isi_list_int, isi_list_bl, isi_list_non, isi_list_dic, isi_tup_lst, isi_tup_tup, isi_tup_str, isi_tup_int, isi_tup_bl, isi_tup_non, isi_tup_dic, isi_str_lst, isi_str_tup, isi_str_str, isi_str_int, isi_str_bl, isi_str_non, isi_str_dic,  isi_int_lst, isi_int_tup, isi_int_str, isi_int_int, isi_int_bl, isi_int_non, isi_int_dic, isi_bl_lst, isi_bl_tup, isi_bl_str, isi_bl_int, isi_bl_bl, isi_bl_non, isi_bl_dic,  eqOk_str, eqOk_int, eqOk_bl, eqOk_non, eqOk_sL, eqOk_iL, eqOk_nil, eqOk_nilT, deq_str, deq_int, deq_non, deq_sL, deq_iL, deq_sL_nil, deq_iL_nil, dmem_str, dmem_int, some_strs, some_ints, sIndex_str, sIndex_int, sJoin_str, sSum_int, sSorted_str, sSorted_int, keys_I, keys_S, valG_I, valG_S, putG_I, putG_S, encA_len, Option.isSome_map, PySem.sizeLine_eq,  List.getElem?_cons_succ, List.getElem?_cons_zero, List.getElem?_nil, List.set_cons_succ, List.set_cons_zero, List.length_cons, List.length_nil, List.length_map, List.length_append, List.map_cons, List.map_nil, List.cons_append, List.nil_append, List.replicate_succ, List.replicate_zero, List.getD_cons_succ, List.getD_cons_zero, List.lookup_cons, List.lookup_nil, nm_players_crew, nm_moments_crew, nm_tops_crew, nm_above_crew, nm_check_moment_crew, nm_with_look_crew, nm_all_looks_crew, nm_until_crew, nm_renamed_crew, nm_is_pair_crew, nm_rows_crew, nm_least_at_crew, nm_most_at_crew, nm_seen_crew, nm_folk_crew, nm_shown_crew, nm_notes_crew, nm_count_crew, nm_total_crew, nm_look_crew, nm_undo_crew, nm_copy_crew, nm_sight_crew, nm_players_seen, nm_moments_seen, nm_tops_seen, nm_above_seen, nm_check_moment_seen, nm_with_look_seen, nm_all_looks_seen, nm_until_seen, nm_renamed_seen, nm_is_pair_seen, nm_rows_seen, nm_least_at_seen, nm_most_at_seen, nm_crew_seen, nm_folk_seen, nm_shown_seen, nm_notes_seen, nm_count_seen, nm_total_seen, nm_look_seen, nm_undo_seen, nm_copy_seen, nm_sight_seen, nm_players_folk, nm_moments_folk, nm_tops_folk, nm_above_folk, nm_check_moment_folk, nm_with_look_folk, nm_all_looks_folk, nm_until_folk, nm_renamed_folk, nm_is_pair_folk, nm_rows_folk, nm_least_at_folk, nm_most_at_folk, nm_crew_folk, nm_seen_folk, nm_shown_folk, nm_notes_folk, nm_count_folk, nm_total_folk, nm_look_folk, nm_undo_folk, nm_copy_folk, nm_sight_folk, nm_players_shown, nm_moments_shown, nm_tops_shown, nm_above_shown, nm_check_moment_shown, nm_with_look_shown, nm_all_looks_shown, nm_until_shown, nm_renamed_shown, nm_is_pair_shown, nm_rows_shown, nm_least_at_shown, nm_most_at_shown, nm_crew_shown, nm_seen_shown, nm_folk_shown, nm_notes_shown, nm_count_shown, nm_total_shown, nm_look_shown, nm_undo_shown, nm_copy_shown, nm_sight_shown, nm_players_notes, nm_moments_notes, nm_tops_notes, nm_above_notes, nm_check_moment_notes, nm_with_look_notes, nm_all_looks_notes, nm_until_notes, nm_renamed_notes, nm_is_pair_notes, nm_rows_notes, nm_least_at_notes, nm_most_at_notes, nm_crew_notes, nm_seen_notes, nm_folk_notes, nm_shown_notes, nm_count_notes, nm_total_notes, nm_look_notes, nm_undo_notes, nm_copy_notes, nm_sight_notes,  Nat.reduceAdd, Nat.reduceSub, Nat.reduceLT, Nat.reduceLeDiff, Nat.reduceMul, Nat.reduceEqDiff, Nat.zero_add, Nat.add_zero, Nat.lt_add_left_iff_pos, Nat.le_add_left, Nat.zero_le, Nat.zero_lt_succ, Nat.succ_lt_succ_iff,  Cn.l.injEq, Cn.k.injEq, true_and, and_true, exists_eq', exists_eq_left', Option.some.injEq, Option.map_some, Option.map_none, Option.bind_some, Option.isSome_some, Option.isSome_none,  decide_eq_true_eq, Bool.false_eq_true, Bool.not_eq_true', Bool.not_true, Bool.not_false, Bool.not_not, Bool.true_xor, Bool.false_xor, decide_eq_false_iff_not, if_true, if_false, ite_true, ite_false, reduceIte, reduceCtorEq, decide_true, decide_false, decide_not, and_self, eq_self, ne_eq, not_true, not_false_eq_true, exists_const, and_imp, beq_self_eq_true])
local macro_rules | `(tactic| walk_at "ws") => `(tactic| repeat (first | refine kont_intro ?_ | walk_at "w1"))
theorem flat_len {α β : Type} {f : α → List β} {c : Nat} : ∀ {l : List α}, (∀ x ∈ l, (f x).length ≤ c) → (l.flatMap f).length ≤ c * l.length
  | [], _ => Nat.zero_le _
  | a :: l, h => by
    rw [List.flatMap_cons, List.length_append, List.length_cons, Nat.mul_succ]
    have h1 := h a List.mem_cons_self
    have h2 := flat_len (f := f) (c := c) (l := l) fun x hx => h x (List.mem_cons_of_mem _ hx)
    omega
theorem lookAt {L : List Lk} {k : Nat} (h : k < L.length) : L2.atI (L.map encL) ((k : Nat) : Int) = some (encL (momAt L k, topsAt L k)) := by
  have e : L[k]? = some (momAt L k, topsAt L k) := by
    unfold momAt topsAt
    rw [List.getElem?_eq_getElem h]
    rfl
  rw [atI_map, L2.atI_nat e]
  rfl
def rowT (ps : List Str) (L : List Lk) (p : Str) (a j : Nat) (os : List Str) : List St3 := (os.filter fun o => decide (o ≠ p) && (kab (topsAt L a) o p && kab (topsAt L j) p o)).map fun o => (momAt L a, momAt L j, o)
theorem rowT_len {ps : List Str} {L : List Lk} {p : Str} {a j : Nat} {os : List Str} : (rowT ps L p a j os).length ≤ os.length := by
  unfold rowT
  rw [List.length_map]
  exact List.length_filter_le _ _
def ds_l_stretches : DSp := fun α Q _ => ∃ (ps : List Str) (L : List Lk) (p : Str), α = [some (.d (sL ps)), some (.d (.lst (L.map encL))), some (.d (.str p))] ∧ ps.length ≤ 100 ∧ L.length ≤ 100 ∧ Q (.d (.lst ((allRows ps L p).map encS))) α
theorem len_l_stretches (α : Dl) (Q : SD → Dl → Prop) (E : XQ) (h : ds_l_stretches α Q E) : α.length = 3 ∧ ∀ (i : Nat) (c : Cn), α[i]? ≠ some (some (.o c)) := by
  obtain ⟨n, m, x, rfl, _⟩ := h
  exact lenOf rfl rfl
theorem law_l_stretches (α : Dl) (Q : SD → Dl → Prop) (E : XQ) (h : ds_l_stretches α Q E) : ws_l_stretches ds_l_known { nx := finD α Q (.d .non), rt := finD α Q } (finE α E) (startD N_l_stretches α) := by
  obtain ⟨ps, L, p, rfl, pl, ll, hq⟩ := h
  unfold ws_l_stretches ws_l_stretches_t1
  walk_at "wp"
  let R1 : Nat → Nat → List St3 := fun a k => (List.range k).flatMap fun i => rowT ps L p a (a + 1 + i) ps
  let R0 : Nat → List St3 := fun n => (List.range n).flatMap fun a => R1 a (L.length - (a + 1))
  have r1l : ∀ a k, (R1 a k).length ≤ 100 * k := fun a k => by
    have := flat_len (f := fun i => rowT ps L p a (a + 1 + i) ps) (c := 100) (l := List.range k) fun x _ => Nat.le_trans rowT_len pl
    rwa [List.length_range] at this
  have r0l : ∀ n, (R0 n).length ≤ 10000 * n := fun n => by
    have := flat_len (f := fun a => R1 a (L.length - (a + 1))) (c := 10000) (l := List.range n) fun x _ => by have := r1l x (L.length - (x + 1)); omega
    rwa [List.length_range] at this
  refine for_rng L.length (fun a δ => ∃ r4 r5 r6, δ = [some (.d (sL ps)), some (.d (.lst (L.map encL))), some (.d (.str p)), some (.o (.l ((R0 a).map encS))), r4, r5, r6]) (fun Q h => by walk_at "wp"; rw [Int.toNat_natCast]; exact ⟨⟨by omega, by omega⟩, h⟩) ⟨none, none, none, rfl⟩ ?_ ?_
  · rintro a δ' ha ⟨r4, r5, r6, rfl⟩
    unfold ws_l_stretches_b3
    walk_at "wp"
    refine for_map (List.range (L.length - (a + 1))) (fun i => D.int ((a : Nat) + 1 + (i : Nat))) (fun pre δ => ∃ r5 r6, δ = [some (.d (sL ps)), some (.d (.lst (L.map encL))), some (.d (.str p)), some (.o (.l ((R0 a ++ R1 a pre.length).map encS))), some (.d (.int a)), r5, r6]) (fun Q h => ?_) ⟨r5, r6, rfl⟩ ?_ ?_
    · have e0 : R0 a ++ R1 a ([] : List Nat).length = R0 a := by simp [R1]
      rw [e0] at h
      walk_at "wp"
      have e1 : (((L.length : Nat) : Int) - ((a : Nat) + 1)).toNat = L.length - (a + 1) := by omega
      rw [e1]
      exact ⟨⟨by omega, by omega, by omega, by omega⟩, h⟩
    · rintro pre i post δ' ex ⟨r5, r6, rfl⟩
      have hi : i = pre.length ∧ i < L.length - (a + 1) := by
        have h1 : (List.range (L.length - (a + 1)))[pre.length]? = some i := by rw [ex]; simp
        have h2 := (List.getElem?_eq_some_iff.mp h1).1
        rw [List.length_range] at h2
        rw [List.getElem?_range h2] at h1
        cases h1
        exact ⟨rfl, h2⟩
      obtain ⟨rfl, hlt⟩ := hi
      unfold ws_l_stretches_b2
      walk_at "wp"
      refine for_map ps .str (fun pr δ => ∃ r6, δ = [some (.d (sL ps)), some (.d (.lst (L.map encL))), some (.d (.str p)), some (.o (.l ((R0 a ++ R1 a pre.length ++ rowT ps L p a (a + 1 + pre.length) pr).map encS))), some (.d (.int a)), some (.d (.int (a + 1 + (pre.length : Nat)))), r6]) (fun Q h => by
        rw [show R0 a ++ R1 a pre.length ++ rowT ps L p a (a + 1 + pre.length) [] = R0 a ++ R1 a pre.length by simp [rowT]] at h
        walk_at "wp"
        exact h) ⟨r6, rfl⟩ ?_ ?_
      · rintro pr o po δ' ex2 ⟨r6, rfl⟩
        unfold ws_l_stretches_b1
        walk_at "wp"
        have fe : ∀ b : Bool, (decide (o ≠ p) && (kab (topsAt L a) o p && kab (topsAt L (a + 1 + pre.length)) p o)) = b → rowT ps L p a (a + 1 + pre.length) (pr ++ [o]) = rowT ps L p a (a + 1 + pre.length) pr ++ (if b then [(momAt L a, momAt L (a + 1 + pre.length), o)] else []) := by
          intro b hb
          unfold rowT
          rw [List.filter_append, List.filter_cons, hb, List.map_append]
          cases b <;> rfl
        have no : (decide (o ≠ p) && (kab (topsAt L a) o p && kab (topsAt L (a + 1 + pre.length)) p o)) = false → ∃ r6', [some (SD.d (sL ps)), some (.d (.lst (L.map encL))), some (.d (.str p)), some (.o (.l ((R0 a ++ R1 a pre.length ++ rowT ps L p a (a + 1 + pre.length) pr).map encS))), some (.d (.int a)), some (.d (.int (a + 1 + (pre.length : Nat)))), some (.d (.str o))] =
            [some (SD.d (sL ps)), some (.d (.lst (L.map encL))), some (.d (.str p)), some (.o (.l ((R0 a ++ R1 a pre.length ++ rowT ps L p a (a + 1 + pre.length) (pr ++ [o])).map encS))), some (.d (.int a)), some (.d (.int (a + 1 + (pre.length : Nat)))), r6'] := fun h => by
          rw [fe false h]
          refine ⟨some (.d (.str o)), ?_⟩
          simp
        have aj : L2.atI (L.map encL) ((a : Nat) + 1 + (pre.length : Nat) : Int) = some (encL (momAt L (a + 1 + pre.length), topsAt L (a + 1 + pre.length))) := by
          rw [show ((a : Nat) + 1 + (pre.length : Nat) : Int) = ((a + 1 + pre.length : Nat) : Int) by omega]
          exact lookAt (by omega)
        by_cases c : o = p
        · simp only [c, not_true_eq_false, if_false]
          subst c
          exact no (by simp)
        · simp only [c, not_false_eq_true, if_true]
          rw [lookAt ha]
          simp only [D.strip, atI_1]
          refine ⟨topsAt L a, o, p, rfl, ?_⟩
          have k1 : kab (topsAt L a) o p = decide (knownAbove (topsAt L a) o p = some true) := rfl
          have k2 : kab (topsAt L (a + 1 + pre.length)) p o = decide (knownAbove (topsAt L (a + 1 + pre.length)) p o = some true) := rfl
          have len : (R0 a).length + (R1 a pre.length).length + (rowT ps L p a (a + 1 + pre.length) pr).length < 16777216 := by
            have h1 := r0l a
            have h2 := r1l a pre.length
            have h3 : (rowT ps L p a (a + 1 + pre.length) pr).length ≤ pr.length := rowT_len
            have h4 := congrArg List.length ex2
            rw [List.length_append, List.length_cons] at h4
            omega
          cases e1 : knownAbove (topsAt L a) o p with
          | none =>
            unfold optB
            walk_at "wp"
            exact no (by rw [k1, e1]; simp)
          | some b1 =>
            cases b1 with
            | false =>
              unfold optB
              walk_at "wp"
              exact no (by rw [k1, e1]; simp)
            | true =>
              unfold optB
              walk_at "wp"
              rw [aj]
              simp only [D.strip, atI_1]
              refine ⟨topsAt L (a + 1 + pre.length), p, o, rfl, ?_⟩
              cases e2 : knownAbove (topsAt L (a + 1 + pre.length)) p o with
              | none =>
                unfold optB
                walk_at "wp"
                exact no (by rw [k2, e2]; simp)
              | some b2 =>
                cases b2 with
                | false =>
                  unfold optB
                  walk_at "wp"
                  exact no (by rw [k2, e2]; simp)
                | true =>
                  unfold optB
                  walk_at "wp"
                  simp only [D.strip, atI_0]
                  rw [fe true (by rw [k1, k2, e1, e2]; simp [c])]
                  refine ⟨len, some (.d (.str o)), ?_⟩
                  rw [if_pos rfl, ← List.append_assoc, List.map_append (l₁ := R0 a ++ R1 a pre.length ++ rowT ps L p a (a + 1 + pre.length) pr)]
                  rfl
      · rintro δ' ⟨r6, rfl⟩
        have e : R1 a (pre.length + 1) = R1 a pre.length ++ rowT ps L p a (a + 1 + pre.length) ps := by
          show (List.range (pre.length + 1)).flatMap _ = _
          rw [List.range_succ, List.flatMap_append, List.flatMap_cons, List.flatMap_nil, List.append_nil]
        show ∃ r5 r6, _ = _
        rw [e, ← List.append_assoc]
        exact ⟨_, _, rfl⟩
    · rintro δ' ⟨r5, r6, rfl⟩
      have e : R0 (a + 1) = R0 a ++ R1 a (List.range (L.length - (a + 1))).length := by
        show (List.range (a + 1)).flatMap _ = _
        rw [List.range_succ, List.flatMap_append, List.flatMap_cons, List.flatMap_nil, List.append_nil, List.length_range]
      rw [e]
      exact ⟨_, _, _, rfl⟩
  · rintro δ' ⟨r4, r5, r6, rfl⟩
    unfold ws_l_stretches_t2
    walk_at "wp"
    exact hq
theorem leS3_data : PySem.W.dataLe false (fun x : St3 => PyData.tuple [.int x.1, .int x.2.1, .str x.2.2]) = leS3 := by
  funext p q
  show (!PySem.W.dataLt (.tuple [.int q.1, .int q.2.1, .str q.2.2]) (.tuple [.int p.1, .int p.2.1, .str p.2.2])) = leS3 p q
  rw [PySem.W.dataLt_tuple, PySem.W.dataLt_cons rfl, PySem.W.dataLt_cons rfl, PySem.W.dataLt_cons rfl, PySem.W.dataLt_int, PySem.W.dataLt_int, PySem.W.dataLt_str]
  have e : PyProof.Rows.lexLt PyProof.Rows.itemOrd (PySem.W.keyToksAll []) (PySem.W.keyToksAll []) = false := PyProof.Rows.lex_irrefl _
  rw [e]
  simp only [PyData.eqv, beq_iff_eq]
  unfold leS3
  have key : (leStr p.2.2 q.2.2 = true) = ¬ (q.2.2.cps.toList < p.2.2.cps.toList) := propext ⟨fun h => List.not_lt.mpr (of_decide_eq_true h), fun h => decide_eq_true (List.not_lt.mp h)⟩
  by_cases h1 : q.1 = p.1
  · by_cases h2 : q.2.1 = p.2.1
    · by_cases h3 : q.2.2 = p.2.2
      · have : leStr p.2.2 p.2.2 = true := decide_eq_true (List.le_refl _)
        simp [h1, h2, h3, this]
      · rw [if_pos h1, if_pos h2, if_neg h3]
        by_cases h4 : q.2.2.cps.toList < p.2.2.cps.toList
        · have : ¬ leStr p.2.2 q.2.2 = true := by rw [key]; exact fun c => c h4
          simp [h1, h2, h4, this]
        · have : leStr p.2.2 q.2.2 = true := by rw [key]; exact h4
          simp [h1, h2, h4, this]
    · rw [if_pos h1, if_neg h2]
      by_cases h4 : q.2.1 < p.2.1
      · have n1 : ¬ p.2.1 < q.2.1 := by omega
        have n2 : ¬ p.2.1 = q.2.1 := by omega
        simp [h1, h4, n1, n2]
      · have n1 : p.2.1 < q.2.1 := by omega
        simp [h1, h4, n1]
  · rw [if_neg h1]
    by_cases h4 : q.1 < p.1
    · have n1 : ¬ p.1 < q.1 := by omega
      have n2 : ¬ p.1 = q.1 := by omega
      simp [h4, n1, n2]
    · have n1 : p.1 < q.1 := by omega
      simp [h4, n1]
theorem kndS3 : Knd encS (fun x : St3 => PyData.tuple [.int x.1, .int x.2.1, .str x.2.2]) := Knd.three Knd.int Knd.int Knd.str
theorem sSorted_S3 (xs : List St3) (Q : SD → Prop) : sSorted (.lst (xs.map encS)) Q = Q (.o (.l ((xs.mergeSort leS3).map encS))) :=
  sSorted_of kndS3 leS3 leS3_data (fun a => by simp [PyData.depth, PyData.depthAll]) (fun _ _ => rfl) (.inl fun a => ⟨_, _, rfl⟩) xs Q
theorem sEqX_ii {neg : Bool} {a b c d : Int} {Q : SD → Prop} : sEqX neg (.tup [.int a, .int b]) (.tup [.int c, .int d]) Q = Q (.d (.bl (neg ^^ decide (a = c ∧ b = d)))) := by
  have h := (Knd.two Knd.int Knd.int).eqX (neg := neg) (Q := Q) (fun x => by simp [PyData.depth, PyData.depthAll]) (a, b) (c, d)
  rw [h]
  have e : decide ((a, b) = (c, d)) = decide (a = c ∧ b = d) := by
    rw [Bool.eq_iff_iff, decide_eq_true_eq, decide_eq_true_eq, Prod.mk.injEq]
  rw [e]
def ds_l_least : DSp := fun α Q _ => ∃ rows : List St3, α = [some (.d (.lst (rows.map encS)))] ∧ rows.length ≤ 1000000 ∧ Q (.o (.l (((lawMin rows).mergeSort leS3).map encS))) α
theorem len_l_least (α : Dl) (Q : SD → Dl → Prop) (E : XQ) (h : ds_l_least α Q E) : α.length = 1 ∧ ∀ (i : Nat) (c : Cn), α[i]? ≠ some (some (.o c)) := by
  obtain ⟨n, rfl, _⟩ := h
  exact lenOf rfl rfl
theorem law_l_least (α : Dl) (Q : SD → Dl → Prop) (E : XQ) (h : ds_l_least α Q E) : ws_l_least { nx := finD α Q (.d .non), rt := finD α Q } (finE α E) (startD N_l_least α) := by
  obtain ⟨rows, rfl, rl, hq⟩ := h
  unfold ws_l_least ws_l_least_t1
  walk_at "wp"
  refine for_map rows encS (fun pre δ => ∃ r2 r3 r4 r5, δ = [some (.d (.lst (rows.map encS))), some (.o (.l ((pre.filter fun x => (inner rows x).isEmpty).map encS))), r2, r3, r4, r5, none]) (fun Q h => by walk_at "wp"; exact h) ⟨none, none, none, none, rfl⟩ ?_ ?_
  · rintro pre ⟨b, e, o⟩ post δ' ex ⟨r2, r3, r4, r5, rfl⟩
    have pf : (pre.filter fun x => (inner rows x).isEmpty).length ≤ 1000000 := by
      have h1 := List.length_filter_le (fun x => (inner rows x).isEmpty) pre
      rw [ex, List.length_append] at rl
      omega
    unfold ws_l_least_b1
    walk_at "wp"
    refine lc_filter rows encS (fun r => decide (b ≤ r.1) && (decide (r.2.1 ≤ e) && !decide (r.1 = b ∧ r.2.1 = e))) (fun Q h => by walk_at "wp"; exact h) (by omega) (okW_of rfl) (fun r hr R S hR hS => ?_) ?_
    · obtain ⟨r1, r2, r3⟩ := r
      walk_at "wp"
      simp only [atI_0, atI_1]
      walk_at "wq"
      rw [sEqX_ii]
      have gR : b ≤ r1 → r2 ≤ e → ¬ (r1 = b ∧ r2 = e) → R (encS (r1, r2, r3)) [some (.d (.lst (rows.map encS))), some (.o (.l ((pre.filter fun x => (inner rows x).isEmpty).map encS))), some (.d (.int b)), some (.d (.int e)), some (.d (.str o)), r5, none] := fun h1 h2 h3 => hR (by
        show (decide (b ≤ r1) && (decide (r2 ≤ e) && !decide (r1 = b ∧ r2 = e))) = true
        rw [decide_eq_true h1, decide_eq_true h2, decide_eq_false h3]; rfl)
      have gS : ¬ (b ≤ r1 ∧ r2 ≤ e ∧ ¬ (r1 = b ∧ r2 = e)) → S [some (.d (.lst (rows.map encS))), some (.o (.l ((pre.filter fun x => (inner rows x).isEmpty).map encS))), some (.d (.int b)), some (.d (.int e)), some (.d (.str o)), r5, none] := fun h => hS (by
        show (decide (b ≤ r1) && (decide (r2 ≤ e) && !decide (r1 = b ∧ r2 = e))) = false
        rw [Bool.eq_false_iff]
        intro c
        simp only [Bool.and_eq_true, decide_eq_true_eq, Bool.not_eq_true', decide_eq_false_iff_not] at c
        exact h c)
      by_cases h1 : b ≤ r1
      · rw [if_pos h1]
        by_cases h2 : r2 ≤ e
        · rw [if_pos h2]
          by_cases h3 : r1 = b ∧ r2 = e
          · rw [decide_eq_true h3]
            exact gS fun c => c.2.2 h3
          · rw [decide_eq_false h3]
            exact gR h1 h2 h3
        · rw [if_neg h2]
          exact gS fun c => h2 c.2.1
      · rw [if_neg h1]
        exact gS fun c => h1 c.1
    · walk_at "wp"
      have ei : (rows.filter fun r => decide (b ≤ r.1) && (decide (r.2.1 ≤ e) && !decide (r.1 = b ∧ r.2.1 = e))) = inner rows (b, e, o) := rfl
      rw [ei]
      have fe : ∀ z : Bool, (inner rows (b, e, o)).isEmpty = z → (pre ++ [(b, e, o)]).filter (fun x => (inner rows x).isEmpty) = pre.filter (fun x => (inner rows x).isEmpty) ++ (if z then [(b, e, o)] else []) := by
        intro z hz
        rw [List.filter_append, List.filter_cons, hz]
        cases z <;> rfl
      cases z : (inner rows (b, e, o)).isEmpty with
      | true =>
        rw [fe true z]
        simp only [if_true]
        exact ⟨by omega, _, _, _, _, by rw [List.map_append]; rfl⟩
      | false =>
        rw [fe false z]
        simp only [Bool.false_eq_true, if_false, List.append_nil]
        exact ⟨_, _, _, _, rfl⟩
  · rintro δ' ⟨r2, r3, r4, r5, rfl⟩
    unfold ws_l_least_t2
    walk_at "wp"
    rw [sSorted_S3]
    exact hq
end Sp
namespace Sp
open PySem L2 DL
local macro_rules | `(tactic| walk_at "wp") => `(tactic| simp only [wSeq, wIf, wAnd, wOr, wNot, vAnd, vOr, vNot, wB, wBin, wChain, wRet, wRetN, wNext, wNever, wIfE, eF, fO, fS, wNeg, wC, wVar, oVar, wDrop, wSet, wNil, wCons, wLst, wTup, wCall, wFn, wFnP,  wTwo, wThree, wPar, wPar3, wUn, wgN, wgTup, wgCons, wgNil, wAugI, wIsN, sIsN, nonB, wXf, wRaise, wMet, tyOk, sLen, sToInt, sList, sListD, sTuple, sAdd, sInt, sInt0, sIn, sEq, sEqD, sEqX_nil, sEqX_str, sEqX_int, sEqX_bl, sEqX_non, sEqX_sL, sEqX_iL, sEqX_sT, List.isEmpty_map, flt_all, List.isEmpty_nil, List.isEmpty_cons, sIx, sCut, wCut, wNoP, wSoP, wYes, wBreak, wCont, wApp, wPopAt, wIns, wRevM, wClr, wListRg, wCutS, sMulS, wFnL3, wRetO, wCutT, wLend, lentD, nlSD, plSD, wNewT, wPutT, wInT, wBN, asBN, wPut, wFld, wMeth, wMake, wSetF, putD, nons, wIxD, wInD, wGet2, wNewD, wPutD, wEqO, wMin2, wMax2, wMaxLen, wRev, keyD,  wiSeq, wiTup, wiStr, wiRng1, wiRng2, wiEnum, outSlot,  view, SD.fz, Cn.fz, D.strip, asB, ownOf, keepKind, argsD, finD, finE, backD, startD, wipeD, unblk,  isi_list_lst, isi_list_tup, isi_list_str, isi_list_int, isi_list_bl, isi_list_non, isi_list_dic, isi_tup_lst, isi_tup_tup, isi_tup_str, isi_tup_int, isi_tup_bl, isi_tup_non, isi_tup_dic, isi_str_lst, isi_str_tup, isi_str_str, isi_str_int, isi_str_bl, isi_str_non, isi_str_dic,  isi_int_lst, isi_int_tup, isi_int_str, isi_int_int, isi_int_bl, isi_int_non, isi_int_dic, isi_bl_lst, isi_bl_tup, isi_bl_str, isi_bl_int, isi_bl_bl, isi_bl_non, isi_bl_dic,  eqOk_str, eqOk_int, eqOk_bl, eqOk_non, eqOk_sL, eqOk_iL, eqOk_nil, eqOk_nilT, deq_str, deq_int, deq_non, deq_sL, deq_iL, deq_sL_nil, deq_iL_nil, dmem_str, dmem_int, some_strs, some_ints, sIndex_str, sIndex_int, sJoin_str, sSum_int, sSorted_str, sSorted_int, keys_I, keys_S, valG_I, valG_S, putG_I, putG_S, encA_len, Option.isSome_map, PySem.sizeLine_eq,  List.getElem?_cons_succ, List.getElem?_cons_zero, List.getElem?_nil, List.set_cons_succ, List.set_cons_zero, List.length_cons, List.length_nil, List.length_map, List.length_append, List.map_cons, List.map_nil, List.cons_append, List.nil_append, List.replicate_succ, List.replicate_zero, List.getD_cons_succ, List.getD_cons_zero, List.lookup_cons, List.lookup_nil, nm_players_crew, nm_moments_crew, nm_tops_crew, nm_above_crew, nm_check_moment_crew, nm_with_look_crew, nm_all_looks_crew, nm_until_crew, nm_renamed_crew, nm_is_pair_crew, nm_rows_crew, nm_least_at_crew, nm_most_at_crew, nm_seen_crew, nm_folk_crew, nm_shown_crew, nm_notes_crew, nm_count_crew, nm_total_crew, nm_look_crew, nm_undo_crew, nm_copy_crew, nm_sight_crew, nm_players_seen, nm_moments_seen, nm_tops_seen, nm_above_seen, nm_check_moment_seen, nm_with_look_seen, nm_all_looks_seen, nm_until_seen, nm_renamed_seen, nm_is_pair_seen, nm_rows_seen, nm_least_at_seen, nm_most_at_seen, nm_crew_seen, nm_folk_seen, nm_shown_seen, nm_notes_seen, nm_count_seen, nm_total_seen, nm_look_seen, nm_undo_seen, nm_copy_seen, nm_sight_seen, nm_players_folk, nm_moments_folk, nm_tops_folk, nm_above_folk, nm_check_moment_folk, nm_with_look_folk, nm_all_looks_folk, nm_until_folk, nm_renamed_folk, nm_is_pair_folk, nm_rows_folk, nm_least_at_folk, nm_most_at_folk, nm_crew_folk, nm_seen_folk, nm_shown_folk, nm_notes_folk, nm_count_folk, nm_total_folk, nm_look_folk, nm_undo_folk, nm_copy_folk, nm_sight_folk, nm_players_shown, nm_moments_shown, nm_tops_shown, nm_above_shown, nm_check_moment_shown, nm_with_look_shown, nm_all_looks_shown, nm_until_shown, nm_renamed_shown, nm_is_pair_shown, nm_rows_shown, nm_least_at_shown, nm_most_at_shown, nm_crew_shown, nm_seen_shown, nm_folk_shown, nm_notes_shown, nm_count_shown, nm_total_shown, nm_look_shown, nm_undo_shown, nm_copy_shown, nm_sight_shown, nm_players_notes, nm_moments_notes, nm_tops_notes, nm_above_notes, nm_check_moment_notes, nm_with_look_notes, nm_all_looks_notes, nm_until_notes, nm_renamed_notes, nm_is_pair_notes, nm_rows_notes, nm_least_at_notes, nm_most_at_notes, nm_crew_notes, nm_seen_notes, nm_folk_notes, nm_shown_notes, nm_count_notes, nm_total_notes, nm_look_notes, nm_undo_notes, nm_copy_notes, nm_sight_notes,  Nat.reduceAdd, Nat.reduceSub, Nat.reduceLT, Nat.reduceLeDiff, Nat.reduceMul, Nat.reduceEqDiff, Nat.zero_add, Nat.add_zero, Nat.lt_add_left_iff_pos, Nat.le_add_left, Nat.zero_le, Nat.zero_lt_succ, Nat.succ_lt_succ_iff,  Cn.l.injEq, Cn.k.injEq, true_and, and_true, exists_eq', exists_eq_left', Option.some.injEq, Option.map_some, Option.map_none, Option.bind_some, Option.isSome_some, Option.isSome_none,  decide_eq_true_eq, Bool.false_eq_true, Bool.not_eq_true', Bool.not_true, Bool.not_false, Bool.not_not, Bool.true_xor, Bool.false_xor, decide_eq_false_iff_not, if_true, if_false, ite_true, ite_false, reduceIte, reduceCtorEq, decide_true, decide_false, decide_not, and_self, eq_self, ne_eq, not_true, not_false_eq_true, exists_const, and_imp, beq_self_eq_true])
local macro_rules | `(tactic| walk_at "wq") => `(tactic| try walk_at "wp")
local macro_rules | `(tactic| walk_at "w1") => `(tactic| simp only [wSeq_k, wIf, wAnd, wOr, wNot, vAnd, vOr, vNot, wB, wBin, wChain, wRet, wRetN, wNext, wNever, wIfE, eF, fO, fS, wNeg, wC, wVar, oVar, wDrop, wSet, wNil, wCons, wLst, wTup, wCall, wFn, wFnP,  wTwo, wThree, wPar, wPar3, wUn, wgN, wgTup, wgCons, wgNil, wAugI, wIsN, sIsN, nonB, wXf, wRaise, wMet, tyOk, sLen, sToInt, sList, sListD, sTuple, sAdd, sInt, sInt0, sIn, sEq, sEqD, sEqX_nil, sEqX_str, sEqX_int, sEqX_bl, sEqX_non, sEqX_sL, sEqX_iL, sEqX_sT, List.isEmpty_map, flt_all, List.isEmpty_nil, List.isEmpty_cons, sIx, sCut, wCut, wNoP, wSoP, wYes, wBreak, wCont, wApp, wPopAt, wIns, wRevM, wClr, wListRg, wCutS, sMulS, wFnL3, wRetO, wCutT, wLend, lentD, nlSD, plSD, wNewT, wPutT, wInT, wBN, asBN, wPut, wFld, wMeth, wMake, wSetF, putD, nons, wIxD, wInD, wGet2, wNewD, wPutD, wEqO, wMin2, wMax2, wMaxLen, wRev, keyD,  wiSeq, wiTup, wiStr, wiRng1, wiRng2, wiEnum, outSlot,  view, SD.fz, Cn.fz, D.strip, asB, ownOf, keepKind, argsD, finD, finE, backD, startD, wipeD, unblk,  isi_list_lst, isi_list_tup, isi_list_str, isi_list_int, isi_list_bl, isi_list_non, isi_list_dic, isi_tup_lst, isi_tup_tup, isi_tup_str, isi_tup_int, isi_tup_bl, isi_tup_non, isi_tup_dic, isi_str_lst, isi_str_tup, isi_str_str, isi_str_int, isi_str_bl, isi_str_non, isi_str_dic,  isi_int_lst, isi_int_tup, isi_int_str, isi_int_int, isi_int_bl, isi_int_non, isi_int_dic, isi_bl_lst, isi_bl_tup, isi_bl_str, isi_bl_int, isi_bl_bl, isi_bl_non, isi_bl_dic,  eqOk_str, eqOk_int, eqOk_bl, eqOk_non, eqOk_sL, eqOk_iL, eqOk_nil, eqOk_nilT, deq_str, deq_int, deq_non, deq_sL, deq_iL, deq_sL_nil, deq_iL_nil, dmem_str, dmem_int, some_strs, some_ints, sIndex_str, sIndex_int, sJoin_str, sSum_int, sSorted_str, sSorted_int, keys_I, keys_S, valG_I, valG_S, putG_I, putG_S, encA_len, Option.isSome_map, PySem.sizeLine_eq,  List.getElem?_cons_succ, List.getElem?_cons_zero, List.getElem?_nil, List.set_cons_succ, List.set_cons_zero, List.length_cons, List.length_nil, List.length_map, List.length_append, List.map_cons, List.map_nil, List.cons_append, List.nil_append, List.replicate_succ, List.replicate_zero, List.getD_cons_succ, List.getD_cons_zero, List.lookup_cons, List.lookup_nil, nm_players_crew, nm_moments_crew, nm_tops_crew, nm_above_crew, nm_check_moment_crew, nm_with_look_crew, nm_all_looks_crew, nm_until_crew, nm_renamed_crew, nm_is_pair_crew, nm_rows_crew, nm_least_at_crew, nm_most_at_crew, nm_seen_crew, nm_folk_crew, nm_shown_crew, nm_notes_crew, nm_count_crew, nm_total_crew, nm_look_crew, nm_undo_crew, nm_copy_crew, nm_sight_crew, nm_players_seen, nm_moments_seen, nm_tops_seen, nm_above_seen, nm_check_moment_seen, nm_with_look_seen, nm_all_looks_seen, nm_until_seen, nm_renamed_seen, nm_is_pair_seen, nm_rows_seen, nm_least_at_seen, nm_most_at_seen, nm_crew_seen, nm_folk_seen, nm_shown_seen, nm_notes_seen, nm_count_seen, nm_total_seen, nm_look_seen, nm_undo_seen, nm_copy_seen, nm_sight_seen, nm_players_folk, nm_moments_folk, nm_tops_folk, nm_above_folk, nm_check_moment_folk, nm_with_look_folk, nm_all_looks_folk, nm_until_folk, nm_renamed_folk, nm_is_pair_folk, nm_rows_folk, nm_least_at_folk, nm_most_at_folk, nm_crew_folk, nm_seen_folk, nm_shown_folk, nm_notes_folk, nm_count_folk, nm_total_folk, nm_look_folk, nm_undo_folk, nm_copy_folk, nm_sight_folk, nm_players_shown, nm_moments_shown, nm_tops_shown, nm_above_shown, nm_check_moment_shown, nm_with_look_shown, nm_all_looks_shown, nm_until_shown, nm_renamed_shown, nm_is_pair_shown, nm_rows_shown, nm_least_at_shown, nm_most_at_shown, nm_crew_shown, nm_seen_shown, nm_folk_shown, nm_notes_shown, nm_count_shown, nm_total_shown, nm_look_shown, nm_undo_shown, nm_copy_shown, nm_sight_shown, nm_players_notes, nm_moments_notes, nm_tops_notes, nm_above_notes, nm_check_moment_notes, nm_with_look_notes, nm_all_looks_notes, nm_until_notes, nm_renamed_notes, nm_is_pair_notes, nm_rows_notes, nm_least_at_notes, nm_most_at_notes, nm_crew_notes, nm_seen_notes, nm_folk_notes, nm_shown_notes, nm_count_notes, nm_total_notes, nm_look_notes, nm_undo_notes, nm_copy_notes, nm_sight_notes,  Nat.reduceAdd, Nat.reduceSub, Nat.reduceLT, Nat.reduceLeDiff, Nat.reduceMul, Nat.reduceEqDiff, Nat.zero_add, Nat.add_zero, Nat.lt_add_left_iff_pos, Nat.le_add_left, Nat.zero_le, Nat.zero_lt_succ, Nat.succ_lt_succ_iff,  Cn.l.injEq, Cn.k.injEq, true_and, and_true, exists_eq', exists_eq_left', Option.some.injEq, Option.map_some, Option.map_none, Option.bind_some, Option.isSome_some, Option.isSome_none,  decide_eq_true_eq, Bool.false_eq_true, Bool.not_eq_true', Bool.not_true, Bool.not_false, Bool.not_not, Bool.true_xor, Bool.false_xor, decide_eq_false_iff_not, if_true, if_false, ite_true, ite_false, reduceIte, reduceCtorEq, decide_true, decide_false, decide_not, and_self, eq_self, ne_eq, not_true, not_false_eq_true, exists_const, and_imp, beq_self_eq_true])
local macro_rules | `(tactic| walk_at "ws") => `(tactic| repeat (first | refine kont_intro ?_ | walk_at "w1"))
theorem cut_last {α : Type} (xs : List α) : cutD xs (some (-1)) none = xs.drop (xs.length - 1) := by
  unfold cutD
  have e1 : HT.sIx xs.length 0 (some (-1)) = xs.length - 1 := by
    show (if (-1 : Int) < 0 then ((-1 : Int) + (xs.length : Int)).toNat else min ((-1 : Int)).toNat xs.length) = _
    rw [if_pos (by decide)]
    omega
  rw [e1, HT.sIx_none, List.take_of_length_le]
  rw [List.length_drop]
  exact Nat.le_refl _
theorem drop_last {α : Type} (xs : List α) : xs.drop (xs.length - 1) = xs.getLast?.toList := by
  cases e : xs.getLast? with
  | none => rw [List.getLast?_eq_none_iff.mp e]; rfl
  | some y =>
    obtain ⟨ini, rfl⟩ := List.getLast?_eq_some_iff.mp e
    rw [List.length_append, List.length_singleton, Nat.add_sub_cancel, List.drop_left]
    rfl
theorem last_of (P : Nat → Bool) (since : Nat) : ∀ k, (((List.range k).map (since + ·)).filter P).getLast? = match (List.range (since + k)).reverse.find? P with
    | some f => if since ≤ f then some f else none
    | none => none
  | 0 => by
    rw [List.range_zero, List.map_nil, List.filter_nil]
    have sp := last_spec P (since + 0)
    cases e : (List.range (since + 0)).reverse.find? P with
    | none => rfl
    | some f =>
      rw [e] at sp
      have := sp.1
      simp only
      rw [if_neg (by omega)]
      rfl
  | k + 1 => by
    have ih := last_of P since k
    rw [List.range_succ, List.map_append, List.filter_append, ← Nat.add_assoc, List.range_succ, List.reverse_append, List.reverse_singleton, List.singleton_append, List.find?_cons, List.map_singleton, List.filter_cons, List.filter_nil]
    cases c : P (since + k) with
    | true =>
      rw [if_pos rfl, List.getLast?_append]
      simp only [List.getLast?_singleton]
      rw [if_pos (by omega)]
      rfl
    | false =>
      rw [if_neg (by decide), List.append_nil]
      exact ih
theorem spots_last {ps : List Str} {L : List Lk} {p : Str} {j since : Nat} (h : since ≤ j) : (((List.range (j - since)).map (since + ·)).filter (goodAt ps L p j)).getLast? = match lastF ps L p j with
    | some f => if since ≤ f then some f else none
    | none => none := by
  have := last_of (goodAt ps L p j) since (j - since)
  rw [show since + (j - since) = j by omega] at this
  exact this
theorem since_le {L : List Lk} {p : Str} (k : Nat) : sinceOf L p k ≤ k := by
  rcases (since_spec (L := L) (p := p) k).1 with h | h <;> omega
def localTo (s : Sg) (ps : List Str) (L : List Lk) (p : Str) (k : Nat) : List St3 := ((List.range k).filterMap (localAt ps L p)).flatMap (block s L p)
theorem localTo_succ {s : Sg} {ps : List Str} {L : List Lk} {p : Str} {k : Nat} : localTo s ps L p (k + 1) = localTo s ps L p k ++ (localAt ps L p k).toList.flatMap (block s L p) := by
  unfold localTo
  have e : List.filterMap (localAt ps L p) [k] = (localAt ps L p k).toList := by
    cases z : localAt ps L p k <;> simp [List.filterMap_cons, z]
  rw [List.range_succ, List.filterMap_append, List.flatMap_append, e]
theorem local_len {s : Sg} {ps : List Str} {L : List Lk} {p : Str} (hc : s.crew.length ≤ 100) : ∀ k, (localTo s ps L p k).length ≤ 100 * k
  | 0 => Nat.zero_le _
  | k + 1 => by
    rw [localTo_succ, List.length_append]
    have h1 := local_len (ps := ps) (L := L) (p := p) hc k
    have h2 : ((localAt ps L p k).toList.flatMap (block s L p)).length ≤ 100 := by
      cases localAt ps L p k with
      | none => exact Nat.zero_le _
      | some x =>
        rw [Option.toList_some, List.flatMap_cons, List.flatMap_nil, List.append_nil]
        unfold block
        rw [List.length_map, ssort_len]
        unfold Sg.foundAt Sg.passed
        exact Nat.le_trans (List.length_filter_le _ _) (Nat.le_trans (List.length_filter_le _ _) hc)
    omega
theorem local_none {s : Sg} {ps : List Str} {L : List Lk} {p : Str} {j : Nat} (h : Fits s ps L) (hp : p ∈ ps) (hj : j < L.length) (hn : p ∉ topsAt L j) : localAt ps L p j = none := by
  unfold localAt
  cases e : lastF ps L p j with
  | none => rfl
  | some f =>
    obtain ⟨l1, l2, _⟩ := lastF_some.mp e
    obtain ⟨o, _, _, _, o4⟩ := (good_iff h hp (by omega) hj).mp l2
    exact absurd (kab_mem o4) hn
def ds_l_local : DSp := fun α Q _ => ∃ (s : Sg) (ps : List Str) (L : List Lk) (p : Str), α = [some (.d (sL ps)), some (.d (.lst (L.map encL))), some (.d (.str p))] ∧ Fits s ps L ∧ p ∈ ps ∧ ps.length ≤ 100 ∧ L.length ≤ 100 ∧ Q (.d (.lst ((s.least p).map encS))) α
theorem len_l_local (α : Dl) (Q : SD → Dl → Prop) (E : XQ) (h : ds_l_local α Q E) : α.length = 3 ∧ ∀ (i : Nat) (c : Cn), α[i]? ≠ some (some (.o c)) := by
  obtain ⟨s, n, m, x, rfl, _⟩ := h
  exact lenOf rfl rfl
theorem law_l_local (α : Dl) (Q : SD → Dl → Prop) (E : XQ) (h : ds_l_local α Q E) : ws_l_local ds_l_known { nx := finD α Q (.d .non), rt := finD α Q } (finE α E) (startD N_l_local α) := by
  obtain ⟨s, ps, L, p, rfl, ft, hp, pl, ll, hq⟩ := h
  have hc : s.crew.length ≤ 100 := by rw [ft.crew]; exact pl
  unfold ws_l_local ws_l_local_t1
  walk_at "wp"
  refine for_rng L.length (fun k δ => ∃ r5 r6 r7 r8 r10 r11 r12, δ = [some (.d (sL ps)), some (.d (.lst (L.map encL))), some (.d (.str p)), some (.o (.l ((localTo s ps L p k).map encS))), some (.d (.int (sinceOf L p k : Nat))), r5, r6, r7, r8, none, r10, r11, r12]) (fun Q h => by walk_at "wp"; rw [Int.toNat_natCast]; exact ⟨⟨by omega, by omega⟩, h⟩)
    ⟨none, none, none, none, none, none, none, rfl⟩ ?_ ?_
  · rintro j δ' hj ⟨r5, r6, r7, r8, r10, r11, r12, rfl⟩
    have lj := local_len (ps := ps) (L := L) (p := p) hc j
    have sj := since_le (L := L) (p := p) j
    unfold ws_l_local_b3
    walk_at "wp"
    rw [lookAt hj]
    walk_at "wp"
    by_cases c : p ∈ topsAt L j
    · simp only [c, if_true]
      refine lc_filter ps .str (fun x => decide (x ≠ p) && kab (topsAt L j) p x) (fun Q h => by walk_at "wp"; exact h) (by omega) (okW_of rfl) (fun y hy R S hR hS => ?_) ?_
      · walk_at "wp"
        by_cases q : y = p
        · simp only [q, not_true_eq_false, if_false]
          exact hS (by simp [q])
        · simp only [q, not_false_eq_true, if_true]
          refine ⟨topsAt L j, p, y, rfl, ?_⟩
          have k1 : kab (topsAt L j) p y = decide (knownAbove (topsAt L j) p y = some true) := rfl
          cases e1 : knownAbove (topsAt L j) p y with
          | none =>
            unfold optB
            exact hS (by rw [k1, e1]; simp)
          | some b1 =>
            unfold optB
            cases b1 with
            | false => exact hS (by rw [k1, e1]; simp)
            | true => exact hR (by rw [k1, e1]; simp [q])
      · walk_at "wp"
        have pe : (ps.filter fun x => !decide (x = p) && kab (topsAt L j) p x) = s.passed p (momAt L j) := by
          unfold Sg.passed
          rw [ft.crew, (ft.at_ hj).1]
          congr 1
          funext x
          simp
        rw [pe]
        have pl2 : (s.passed p (momAt L j)).length ≤ 100 := Nat.le_trans (List.length_filter_le _ _) hc
        have fnd : ∀ f < L.length, (s.passed p (momAt L j)).filter (fun x => kab (topsAt L f) x p) = s.foundAt p (momAt L j) (momAt L f) := fun f hf => by
          unfold Sg.foundAt
          rw [(ft.at_ hf).1]
        have hsf : sinceOf L p (j + 1) = j := by
          unfold sinceOf
          rw [if_pos c]
        have lcK : ∀ (f : Nat), f < L.length → ∀ (x3 r10 r12 : Option SD) (sd : Option SD) (hsd : OrdS (s.passed p (momAt L j)) sd) (Q' : SD → Dl → Prop) (E' : XQ),
            Q' (.o (.l ((s.foundAt p (momAt L j) (momAt L f)).map .str))) [some (.d (sL ps)), some (.d (.lst (L.map encL))), some (.d (.str p)), x3, some (.d (.int (sinceOf L p j : Nat))), some (.d (.int j)), some (.d (.int (momAt L j))), some (.d (sL (topsAt L j))), some (.d (sL (s.passed p (momAt L j)))), none, r10, some (.d (.int (f : Nat))), r12] →
            wLc (wiSeq (wVar 8)) (wgN 9) (wBN (wFn ds_l_known (wCons (eF (wBin sIx (fO (eF (wBin sIx (oVar 1) (oVar 11)))) (fO (wC (.int 1))))) (wCons (wVar 9) (wCons (wVar 2) wNil))))) (wVar 9) [9]
              [some (.d (sL ps)), some (.d (.lst (L.map encL))), some (.d (.str p)), x3, some (.d (.int (sinceOf L p j : Nat))), some (.d (.int j)), some (.d (.int (momAt L j))), some (.d (sL (topsAt L j))), sd, none, r10, some (.d (.int (f : Nat))), r12] Q' E' := by
          intro f hf x3 r10 r12 sd hsd Q' E' q
          refine lc_filter (s.passed p (momAt L j)) .str (fun x => kab (topsAt L f) x p) (fun Q h => by
            rcases hsd with rfl | rfl
            all_goals
              walk_at "wp"
              exact h) (by omega) (okW_of rfl) (fun y hy R S hR hS => ?_) ?_
          · walk_at "wp"
            rw [lookAt hf]
            simp only [D.strip, atI_1]
            refine ⟨topsAt L f, y, p, rfl, ?_⟩
            have k1 : kab (topsAt L f) y p = decide (knownAbove (topsAt L f) y p = some true) := rfl
            cases e1 : knownAbove (topsAt L f) y p with
            | none =>
              unfold optB
              exact hS (by rw [k1, e1]; simp)
            | some b1 =>
              unfold optB
              cases b1 with
              | false => exact hS (by rw [k1, e1]; simp)
              | true => exact hR (by rw [k1, e1]; simp)
          · rw [fnd f hf]
            exact q
        refine for_map (List.range (j - sinceOf L p j)) (fun i => D.int ((sinceOf L p j : Nat) + (i : Nat))) (fun pre δ => ∃ sd r11, OrdS (s.passed p (momAt L j)) sd ∧ δ = [some (.d (sL ps)), some (.d (.lst (L.map encL))), some (.d (.str p)), some (.o (.l ((localTo s ps L p j).map encS))), some (.d (.int (sinceOf L p j : Nat))), some (.d (.int j)), some (.d (.int (momAt L j))), some (.d (sL (topsAt L j))), sd, none,
            some (.o (.l (((((List.range pre.length).map (sinceOf L p j + ·)).filter (goodAt ps L p j))).map fun f => D.int ((f : Nat) : Int)))), r11, r12]) (fun Q h => ?_) ⟨_, r11, .inr rfl, rfl⟩ ?_ ?_
        · walk_at "wp"
          have e1 : (((j : Nat) : Int) - (sinceOf L p j : Nat)).toNat = j - sinceOf L p j := by omega
          rw [e1]
          exact ⟨⟨by omega, by omega, by omega, by omega⟩, h⟩
        · rintro pre i post δ' ex ⟨sd, r11, hsd, rfl⟩
          have hi : i = pre.length ∧ i < j - sinceOf L p j := by
            have h1 : (List.range (j - sinceOf L p j))[pre.length]? = some i := by rw [ex]; simp
            have h2 := (List.getElem?_eq_some_iff.mp h1).1
            rw [List.length_range] at h2
            rw [List.getElem?_range h2] at h1
            cases h1
            exact ⟨rfl, h2⟩
          obtain ⟨rfl, hlt⟩ := hi
          unfold ws_l_local_b2
          walk_at "wp"
          have ef : ((sinceOf L p j : Nat) : Int) + (pre.length : Nat) = ((sinceOf L p j + pre.length : Nat) : Int) := by omega
          rw [ef]
          have hfl : sinceOf L p j + pre.length < L.length := by omega
          refine lcK (sinceOf L p j + pre.length) hfl _ _ _ sd hsd _ _ ?_
          walk_at "wp"
          have fg := found_good ft hp hfl hj
          have sl : ((((List.range pre.length).map (sinceOf L p j + ·)).filter (goodAt ps L p j))).length ≤ 100 := by
            refine Nat.le_trans (List.length_filter_le _ _) ?_
            rw [List.length_map, List.length_range]
            omega
          have e3 : (((List.range (pre.length + 1)).map (sinceOf L p j + ·)).filter (goodAt ps L p j)) = (((List.range pre.length).map (sinceOf L p j + ·)).filter (goodAt ps L p j)) ++ (if goodAt ps L p j (sinceOf L p j + pre.length) then [sinceOf L p j + pre.length] else []) := by
            rw [List.range_succ, List.map_append, List.filter_append]
            congr 1
            rw [List.map_singleton, List.filter_cons, List.filter_nil]
          rw [e3]
          cases g : goodAt ps L p j (sinceOf L p j + pre.length) with
          | false =>
            rw [fg.mpr g]
            simp only [List.isEmpty_nil, Bool.true_eq_false, if_false, Bool.false_eq_true, List.append_nil]
            exact ⟨_, _, .inl rfl, rfl⟩
          | true =>
            have ne : (s.foundAt p (momAt L j) (momAt L (sinceOf L p j + pre.length))).isEmpty = false := by
              cases q : s.foundAt p (momAt L j) (momAt L (sinceOf L p j + pre.length)) with
              | nil => rw [fg.mp q] at g; cases g
              | cons x r => rfl
            rw [ne]
            simp only [if_true]
            exact ⟨by omega, _, _, .inl rfl, by rw [List.map_append]; rfl⟩
        · rintro δ' ⟨sd, r11, hsd, rfl⟩
          rw [List.length_range]
          walk_at "wp"
          have sp := spots_last (ps := ps) (L := L) (p := p) (j := j) sj
          have spm : ∀ f ∈ (((List.range (j - sinceOf L p j)).map (sinceOf L p j + ·)).filter (goodAt ps L p j)), f < j := fun f hf => by
            obtain ⟨i, hi, rfl⟩ := List.mem_map.mp (List.mem_filter.mp hf).1
            have := List.mem_range.mp hi
            omega
          generalize (((List.range (j - sinceOf L p j)).map (sinceOf L p j + ·)).filter (goodAt ps L p j)) = spots at sp spm
          have la : (localAt ps L p j).toList = spots.getLast?.toList.map fun f => (f, j) := by
            rw [sp]
            unfold localAt
            cases lastF ps L p j with
            | none => rfl
            | some f =>
              simp only
              by_cases q : sinceOf L p j ≤ f
              · rw [if_pos q, if_pos q]; rfl
              · rw [if_neg q, if_neg q]; rfl
          refine for_map spots.getLast?.toList (fun f => D.int ((f : Nat) : Int)) (fun pre δ => ∃ sd r11 r12, OrdS (s.passed p (momAt L j)) sd ∧ δ = [some (.d (sL ps)), some (.d (.lst (L.map encL))), some (.d (.str p)), some (.o (.l ((localTo s ps L p j ++ (pre.map fun f => (f, j)).flatMap (block s L p)).map encS))), some (.d (.int (sinceOf L p j : Nat))), some (.d (.int j)), some (.d (.int (momAt L j))), some (.d (sL (topsAt L j))), sd, none,
            some (.o (.l (spots.map fun f => D.int ((f : Nat) : Int)))), r11, r12]) (fun Q h => ?_) ⟨sd, r11, r12, hsd, rfl⟩ ?_ ?_
          · rw [List.map_nil, List.flatMap_nil, List.append_nil] at h
            walk_at "wp"
            rw [cut_last, drop_last, List.getLast?_map]
            have e : (Option.map (fun f => D.int ((f : Nat) : Int)) spots.getLast?).toList = spots.getLast?.toList.map fun f => D.int ((f : Nat) : Int) := by
              cases spots.getLast? <;> rfl
            rw [e]
            exact h
          · rintro pre f post δ' ex ⟨sd, r11, r12, hsd, rfl⟩
            have hf : f < j := spm f (by
              have : f ∈ spots.getLast?.toList := by rw [ex]; simp
              exact List.mem_of_getLast? (Option.mem_toList.mp this))
            have pz : pre = [] := by
              have := congrArg List.length ex
              rw [List.length_append, List.length_cons] at this
              have l1 : spots.getLast?.toList.length ≤ 1 := by cases spots.getLast? <;> simp
              exact List.length_eq_zero_iff.mp (by omega)
            subst pz
            unfold ws_l_local_b1
            walk_at "wp"
            refine lcK f (by omega) _ _ _ sd hsd _ _ ?_
            walk_at "wp"
            have bl : (s.foundAt p (momAt L j) (momAt L f)).length ≤ 100 := Nat.le_trans (List.length_filter_le _ _) pl2
            refine lc_map (ssort (s.foundAt p (momAt L j) (momAt L f))) .str (fun o => (momAt L f, momAt L j, o)) encS (fun Q h => by walk_at "wp"; exact h) (by rw [ssort_len]; omega) (okW_of rfl) (fun y hy R S hR => ?_) ?_
            · walk_at "wp"
              rw [lookAt (by omega : f < L.length)]
              simp only [D.strip, atI_0]
              exact hR
            · walk_at "wp"
              have eb : List.flatMap (block s L p) [(f, j)] = (ssort (s.foundAt p (momAt L j) (momAt L f))).map fun o => (momAt L f, momAt L j, o) := by
                rw [List.flatMap_cons, List.flatMap_nil, List.append_nil]
                rfl
              simp only [eb, List.flatMap_nil, List.append_nil, List.length_nil, Nat.add_zero, List.map_append]
              exact ⟨by rw [ssort_len]; omega, _, _, _, .inl rfl, rfl⟩
          · rintro δ' ⟨sd, r11, r12, hsd, rfl⟩
            walk_at "wp"
            rw [localTo_succ, la, hsf]
            exact ⟨_, _, _, _, _, _, _, rfl⟩
    · simp only [c, if_false]
      rw [localTo_succ, local_none ft hp hj c]
      have e : sinceOf L p (j + 1) = sinceOf L p j := by
        conv => lhs; unfold sinceOf
        rw [if_neg c]
      rw [e]
      simp only [Option.toList_none, List.flatMap_nil, List.append_nil]
      exact ⟨_, _, _, _, _, _, _, rfl⟩
  · rintro δ' ⟨r5, r6, r7, r8, r10, r11, r12, rfl⟩
    unfold ws_l_local_t2
    walk_at "wp"
    rw [show localTo s ps L p L.length = s.least p from (least_local ft hp).symm]
    exact hq
def ds_l_apart : DSp := fun α Q _ => ∃ rows : List St3, α = [some (.d (.lst (rows.map encS)))] ∧ rows.length ≤ 1000000 ∧ rows.Pairwise apartOk ∧ Q (.d (.bl true)) α
theorem len_l_apart (α : Dl) (Q : SD → Dl → Prop) (E : XQ) (h : ds_l_apart α Q E) : α.length = 1 ∧ ∀ (i : Nat) (c : Cn), α[i]? ≠ some (some (.o c)) := by
  obtain ⟨n, rfl, _⟩ := h
  exact lenOf rfl rfl
theorem law_l_apart (α : Dl) (Q : SD → Dl → Prop) (E : XQ) (h : ds_l_apart α Q E) : ws_l_apart { nx := finD α Q (.d .non), rt := finD α Q } (finE α E) (startD N_l_apart α) := by
  obtain ⟨rows, rfl, rl, pw, hq⟩ := h
  unfold ws_l_apart
  walk_at "wp"
  refine for_map (List.range (rows.length - 1)) (fun i => D.int (1 + (i : Nat))) (fun pre δ => ∃ r1, δ = [some (.d (.lst (rows.map encS))), r1]) (fun Q h => ?_) ⟨none, rfl⟩ ?_ ?_
  · walk_at "wp"
    refine ⟨⟨by decide, by decide, by omega, by omega⟩, ?_⟩
    have e1 : (((rows.length : Nat) : Int) - 1).toNat = rows.length - 1 := by omega
    rw [e1]
    exact h
  · rintro pre i post δ' ex ⟨r1, rfl⟩
    have hi : i < rows.length - 1 := by
      have : i ∈ List.range (rows.length - 1) := by rw [ex]; simp
      exact List.mem_range.mp this
    have a1 : L2.atI (rows.map encS) (1 + (i : Nat) : Int) = some (encS rows[i + 1]) := by
      rw [show (1 + (i : Nat) : Int) = ((i + 1 : Nat) : Int) by omega, atI_map, L2.atI_nat (List.getElem?_eq_getElem (by omega : i + 1 < rows.length))]
      rfl
    have a0 : L2.atI (rows.map encS) (1 + (i : Nat) - 1 : Int) = some (encS rows[i]) := by
      rw [show (1 + (i : Nat) - 1 : Int) = ((i : Nat) : Int) by omega, atI_map, L2.atI_nat (List.getElem?_eq_getElem (by omega : i < rows.length))]
      rfl
    have ok := List.pairwise_iff_getElem.mp pw i (i + 1) (by omega) (by omega) (Nat.lt_succ_self i)
    unfold ws_l_apart_b1
    walk_at "wp"
    rw [a1, a0]
    walk_at "wp"
    have c2 : ∀ x y z : D, cutD [x, y, z] none (some 2) = [x, y] := fun x y z => by rw [cut_to _ (by decide)]; rfl
    refine ⟨by decide, by decide, ?_⟩
    rw [c2, c2, sEqX_ii]
    simp only [atI_0, atI_1]
    walk_at "wq"
    by_cases q : rows[i + 1].1 = rows[i].1 ∧ rows[i + 1].2.1 = rows[i].2.1
    · rw [if_neg (fun c => c q)]
      exact ⟨_, rfl⟩
    · rw [if_pos q]
      have nl : ¬ rows[i + 1].1 < rows[i].2.1 := by
        rcases ok with ⟨e1, e2⟩ | ok
        · exact absurd ⟨e1.symm, e2.symm⟩ q
        · omega
      simp only [nl, if_false]
      exact ⟨_, rfl⟩
  · rintro δ' ⟨r1, rfl⟩
    unfold ws_l_apart_t1
    walk_at "wp"
    exact hq
end Sp
namespace Sp
open PySem L2 DL
local macro_rules | `(tactic| walk_at "wp") => `(tactic| simp only [wSeq, wIf, wAnd, wOr, wNot, vAnd, vOr, vNot, wB, wBin, wChain, wRet, wRetN, wNext, wNever, wIfE, eF, fO, fS, wNeg, wC, wVar, oVar, wDrop, wSet, wNil, wCons, wLst, wTup, wCall, wFn, wFnP,  wTwo, wThree, wPar, wPar3, wUn, wgN, wgTup, wgCons, wgNil, wAugI, wIsN, sIsN, nonB, wXf, wRaise, wMet, tyOk, sLen, sToInt, sList, sListD, sTuple, sAdd, sInt, sInt0, sIn, sEq, sEqD, sEqX_nil, sEqX_str, sEqX_int, sEqX_bl, sEqX_non, sEqX_sL, sEqX_iL, sEqX_sT, List.isEmpty_map, flt_all, List.isEmpty_nil, List.isEmpty_cons, sIx, sCut, wCut, wNoP, wSoP, wYes, wBreak, wCont, wApp, wPopAt, wIns, wRevM, wClr, wListRg, wCutS, sMulS, wFnL3, wRetO, wCutT, wLend, lentD, nlSD, plSD, wNewT, wPutT, wInT, wBN, asBN, wPut, wFld, wMeth, wMake, wSetF, putD, nons, wIxD, wInD, wGet2, wNewD, wPutD, wEqO, wMin2, wMax2, wMaxLen, wRev, keyD,  wiSeq, wiTup, wiStr, wiRng1, wiRng2, wiEnum, outSlot,  view, SD.fz, Cn.fz, D.strip, asB, ownOf, keepKind, argsD, finD, finE, backD, startD, wipeD, unblk,  isi_list_lst, isi_list_tup, isi_list_str, isi_list_int, isi_list_bl, isi_list_non, isi_list_dic, isi_tup_lst, isi_tup_tup, isi_tup_str, isi_tup_int, isi_tup_bl, isi_tup_non, isi_tup_dic, isi_str_lst, isi_str_tup, isi_str_str, isi_str_int, isi_str_bl, isi_str_non, isi_str_dic,  isi_int_lst, isi_int_tup, isi_int_str, isi_int_int, isi_int_bl, isi_int_non, isi_int_dic, isi_bl_lst, isi_bl_tup, isi_bl_str, isi_bl_int, isi_bl_bl, isi_bl_non, isi_bl_dic,  eqOk_str, eqOk_int, eqOk_bl, eqOk_non, eqOk_sL, eqOk_iL, eqOk_nil, eqOk_nilT, deq_str, deq_int, deq_non, deq_sL, deq_iL, deq_sL_nil, deq_iL_nil, dmem_str, dmem_int, some_strs, some_ints, sIndex_str, sIndex_int, sJoin_str, sSum_int, sSorted_str, sSorted_int, keys_I, keys_S, valG_I, valG_S, putG_I, putG_S, encA_len, Option.isSome_map, PySem.sizeLine_eq,  List.getElem?_cons_succ, List.getElem?_cons_zero, List.getElem?_nil, List.set_cons_succ, List.set_cons_zero, List.length_cons, List.length_nil, List.length_map, List.length_append, List.map_cons, List.map_nil, List.cons_append, List.nil_append, List.replicate_succ, List.replicate_zero, List.getD_cons_succ, List.getD_cons_zero, List.lookup_cons, List.lookup_nil, nm_players_crew, nm_moments_crew, nm_tops_crew, nm_above_crew, nm_check_moment_crew, nm_with_look_crew, nm_all_looks_crew, nm_until_crew, nm_renamed_crew, nm_is_pair_crew, nm_rows_crew, nm_least_at_crew, nm_most_at_crew, nm_seen_crew, nm_folk_crew, nm_shown_crew, nm_notes_crew, nm_count_crew, nm_total_crew, nm_look_crew, nm_undo_crew, nm_copy_crew, nm_sight_crew, nm_players_seen, nm_moments_seen, nm_tops_seen, nm_above_seen, nm_check_moment_seen, nm_with_look_seen, nm_all_looks_seen, nm_until_seen, nm_renamed_seen, nm_is_pair_seen, nm_rows_seen, nm_least_at_seen, nm_most_at_seen, nm_crew_seen, nm_folk_seen, nm_shown_seen, nm_notes_seen, nm_count_seen, nm_total_seen, nm_look_seen, nm_undo_seen, nm_copy_seen, nm_sight_seen, nm_players_folk, nm_moments_folk, nm_tops_folk, nm_above_folk, nm_check_moment_folk, nm_with_look_folk, nm_all_looks_folk, nm_until_folk, nm_renamed_folk, nm_is_pair_folk, nm_rows_folk, nm_least_at_folk, nm_most_at_folk, nm_crew_folk, nm_seen_folk, nm_shown_folk, nm_notes_folk, nm_count_folk, nm_total_folk, nm_look_folk, nm_undo_folk, nm_copy_folk, nm_sight_folk, nm_players_shown, nm_moments_shown, nm_tops_shown, nm_above_shown, nm_check_moment_shown, nm_with_look_shown, nm_all_looks_shown, nm_until_shown, nm_renamed_shown, nm_is_pair_shown, nm_rows_shown, nm_least_at_shown, nm_most_at_shown, nm_crew_shown, nm_seen_shown, nm_folk_shown, nm_notes_shown, nm_count_shown, nm_total_shown, nm_look_shown, nm_undo_shown, nm_copy_shown, nm_sight_shown, nm_players_notes, nm_moments_notes, nm_tops_notes, nm_above_notes, nm_check_moment_notes, nm_with_look_notes, nm_all_looks_notes, nm_until_notes, nm_renamed_notes, nm_is_pair_notes, nm_rows_notes, nm_least_at_notes, nm_most_at_notes, nm_crew_notes, nm_seen_notes, nm_folk_notes, nm_shown_notes, nm_count_notes, nm_total_notes, nm_look_notes, nm_undo_notes, nm_copy_notes, nm_sight_notes,  Nat.reduceAdd, Nat.reduceSub, Nat.reduceLT, Nat.reduceLeDiff, Nat.reduceMul, Nat.reduceEqDiff, Nat.zero_add, Nat.add_zero, Nat.lt_add_left_iff_pos, Nat.le_add_left, Nat.zero_le, Nat.zero_lt_succ, Nat.succ_lt_succ_iff,  Cn.l.injEq, Cn.k.injEq, true_and, and_true, exists_eq', exists_eq_left', Option.some.injEq, Option.map_some, Option.map_none, Option.bind_some, Option.isSome_some, Option.isSome_none,  decide_eq_true_eq, Bool.false_eq_true, Bool.not_eq_true', Bool.not_true, Bool.not_false, Bool.not_not, Bool.true_xor, Bool.false_xor, decide_eq_false_iff_not, if_true, if_false, ite_true, ite_false, reduceIte, reduceCtorEq, decide_true, decide_false, decide_not, and_self, eq_self, ne_eq, not_true, not_false_eq_true, exists_const, and_imp, beq_self_eq_true])
local macro_rules | `(tactic| walk_at "wq") => `(tactic| try walk_at "wp")
local macro_rules | `(tactic| walk_at "w1") => `(tactic| simp only [wSeq_k, wIf, wAnd, wOr, wNot, vAnd, vOr, vNot, wB, wBin, wChain, wRet, wRetN, wNext, wNever, wIfE, eF, fO, fS, wNeg, wC, wVar, oVar, wDrop, wSet, wNil, wCons, wLst, wTup, wCall, wFn, wFnP,  wTwo, wThree, wPar, wPar3, wUn, wgN, wgTup, wgCons, wgNil, wAugI, wIsN, sIsN, nonB, wXf, wRaise, wMet, tyOk, sLen, sToInt, sList, sListD, sTuple, sAdd, sInt, sInt0, sIn, sEq, sEqD, sEqX_nil, sEqX_str, sEqX_int, sEqX_bl, sEqX_non, sEqX_sL, sEqX_iL, sEqX_sT, List.isEmpty_map, flt_all, List.isEmpty_nil, List.isEmpty_cons, sIx, sCut, wCut, wNoP, wSoP, wYes, wBreak, wCont, wApp, wPopAt, wIns, wRevM, wClr, wListRg, wCutS, sMulS, wFnL3, wRetO, wCutT, wLend, lentD, nlSD, plSD, wNewT, wPutT, wInT, wBN, asBN, wPut, wFld, wMeth, wMake, wSetF, putD, nons, wIxD, wInD, wGet2, wNewD, wPutD, wEqO, wMin2, wMax2, wMaxLen, wRev, keyD,  wiSeq, wiTup, wiStr, wiRng1, wiRng2, wiEnum, outSlot,  view, SD.fz, Cn.fz, D.strip, asB, ownOf, keepKind, argsD, finD, finE, backD, startD, wipeD, unblk,  isi_list_lst, isi_list_tup, isi_list_str, isi_list_int, isi_list_bl, isi_list_non, isi_list_dic, isi_tup_lst, isi_tup_tup, isi_tup_str, isi_tup_int, isi_tup_bl, isi_tup_non, isi_tup_dic, isi_str_lst, isi_str_tup, isi_str_str, isi_str_int, isi_str_bl, isi_str_non, isi_str_dic,  isi_int_lst, isi_int_tup, isi_int_str, isi_int_int, isi_int_bl, isi_int_non, isi_int_dic, isi_bl_lst, isi_bl_tup, isi_bl_str, isi_bl_int, isi_bl_bl, isi_bl_non, isi_bl_dic,  eqOk_str, eqOk_int, eqOk_bl, eqOk_non, eqOk_sL, eqOk_iL, eqOk_nil, eqOk_nilT, deq_str, deq_int, deq_non, deq_sL, deq_iL, deq_sL_nil, deq_iL_nil, dmem_str, dmem_int, some_strs, some_ints, sIndex_str, sIndex_int, sJoin_str, sSum_int, sSorted_str, sSorted_int, keys_I, keys_S, valG_I, valG_S, putG_I, putG_S, encA_len, Option.isSome_map, PySem.sizeLine_eq,  List.getElem?_cons_succ, List.getElem?_cons_zero, List.getElem?_nil, List.set_cons_succ, List.set_cons_zero, List.length_cons, List.length_nil, List.length_map, List.length_append, List.map_cons, List.map_nil, List.cons_append, List.nil_append, List.replicate_succ, List.replicate_zero, List.getD_cons_succ, List.getD_cons_zero, List.lookup_cons, List.lookup_nil, nm_players_crew, nm_moments_crew, nm_tops_crew, nm_above_crew, nm_check_moment_crew, nm_with_look_crew, nm_all_looks_crew, nm_until_crew, nm_renamed_crew, nm_is_pair_crew, nm_rows_crew, nm_least_at_crew, nm_most_at_crew, nm_seen_crew, nm_folk_crew, nm_shown_crew, nm_notes_crew, nm_count_crew, nm_total_crew, nm_look_crew, nm_undo_crew, nm_copy_crew, nm_sight_crew, nm_players_seen, nm_moments_seen, nm_tops_seen, nm_above_seen, nm_check_moment_seen, nm_with_look_seen, nm_all_looks_seen, nm_until_seen, nm_renamed_seen, nm_is_pair_seen, nm_rows_seen, nm_least_at_seen, nm_most_at_seen, nm_crew_seen, nm_folk_seen, nm_shown_seen, nm_notes_seen, nm_count_seen, nm_total_seen, nm_look_seen, nm_undo_seen, nm_copy_seen, nm_sight_seen, nm_players_folk, nm_moments_folk, nm_tops_folk, nm_above_folk, nm_check_moment_folk, nm_with_look_folk, nm_all_looks_folk, nm_until_folk, nm_renamed_folk, nm_is_pair_folk, nm_rows_folk, nm_least_at_folk, nm_most_at_folk, nm_crew_folk, nm_seen_folk, nm_shown_folk, nm_notes_folk, nm_count_folk, nm_total_folk, nm_look_folk, nm_undo_folk, nm_copy_folk, nm_sight_folk, nm_players_shown, nm_moments_shown, nm_tops_shown, nm_above_shown, nm_check_moment_shown, nm_with_look_shown, nm_all_looks_shown, nm_until_shown, nm_renamed_shown, nm_is_pair_shown, nm_rows_shown, nm_least_at_shown, nm_most_at_shown, nm_crew_shown, nm_seen_shown, nm_folk_shown, nm_notes_shown, nm_count_shown, nm_total_shown, nm_look_shown, nm_undo_shown, nm_copy_shown, nm_sight_shown, nm_players_notes, nm_moments_notes, nm_tops_notes, nm_above_notes, nm_check_moment_notes, nm_with_look_notes, nm_all_looks_notes, nm_until_notes, nm_renamed_notes, nm_is_pair_notes, nm_rows_notes, nm_least_at_notes, nm_most_at_notes, nm_crew_notes, nm_seen_notes, nm_folk_notes, nm_shown_notes, nm_count_notes, nm_total_notes, nm_look_notes, nm_undo_notes, nm_copy_notes, nm_sight_notes,  Nat.reduceAdd, Nat.reduceSub, Nat.reduceLT, Nat.reduceLeDiff, Nat.reduceMul, Nat.reduceEqDiff, Nat.zero_add, Nat.add_zero, Nat.lt_add_left_iff_pos, Nat.le_add_left, Nat.zero_le, Nat.zero_lt_succ, Nat.succ_lt_succ_iff,  Cn.l.injEq, Cn.k.injEq, true_and, and_true, exists_eq', exists_eq_left', Option.some.injEq, Option.map_some, Option.map_none, Option.bind_some, Option.isSome_some, Option.isSome_none,  decide_eq_true_eq, Bool.false_eq_true, Bool.not_eq_true', Bool.not_true, Bool.not_false, Bool.not_not, Bool.true_xor, Bool.false_xor, decide_eq_false_iff_not, if_true, if_false, ite_true, ite_false, reduceIte, reduceCtorEq, decide_true, decide_false, decide_not, and_self, eq_self, ne_eq, not_true, not_false_eq_true, exists_const, and_imp, beq_self_eq_true])
local macro_rules | `(tactic| walk_at "ws") => `(tactic| repeat (first | refine kont_intro ?_ | walk_at "w1"))
theorem allRows_len {ps : List Str} {L : List Lk} {p : Str} (h1 : ps.length ≤ 100) (h2 : L.length ≤ 100) : (allRows ps L p).length ≤ 1000000 := by
  have a1 : ∀ a, ((List.range (L.length - (a + 1))).flatMap fun i => rowT ps L p a (a + 1 + i) ps).length ≤ 10000 := fun a => by
    have := flat_len (f := fun i => rowT ps L p a (a + 1 + i) ps) (c := 100) (l := List.range (L.length - (a + 1))) fun x _ => Nat.le_trans rowT_len h1
    rw [List.length_range] at this
    omega
  have := flat_len (f := fun a => (List.range (L.length - (a + 1))).flatMap fun i => rowT ps L p a (a + 1 + i) ps) (c := 10000) (l := List.range L.length) fun x _ => a1 x
  rw [List.length_range] at this
  show ((List.range L.length).flatMap fun a => (List.range (L.length - (a + 1))).flatMap fun i => rowT ps L p a (a + 1 + i) ps).length ≤ _
  omega
theorem sEqX_S3 {neg : Bool} {a b : List St3} {Q : SD → Prop} : sEqX neg (.lst (a.map encS)) (.lst (b.map encS)) Q = Q (.d (.bl (neg ^^ decide (a = b)))) :=
  (Knd.lst kndS3).eqX (fun x => Nat.le_trans (dep_lst (n := 1) (fun z => by simp [PyData.depth, PyData.depthAll]) x) (by decide)) a b
theorem sight_fits {ps : List Str} {f : List Lk} (hk : (f.map (·.1)).Nodup) (nd : ∀ q ∈ f, q.2.Nodup) : Fits ⟨ps, f⟩ ps (sightL f) := by
  have hin : ∀ q ∈ sightL f, q.2 = (lookA f q.1).getD [] ∧ q.1 ∈ f.map (·.1) := fun q hq => by
    unfold sightL at hq
    obtain ⟨m, hm, rfl⟩ := List.mem_map.mp hq
    exact ⟨rfl, isort_mem.mp hm⟩
  refine ⟨rfl, by rw [sightL_keys]; rfl, ?_, fun q hq => (hin q hq).1.symm, fun q hq => ?_⟩
  · rw [sightL_keys]
    have s1 := isort_sorted (f.map (·.1))
    have s2 := isort_nodup hk
    exact (s1.and s2).imp fun h => by have := h.1; have := h.2; omega
  · obtain ⟨e, hm⟩ := hin q hq
    rw [e]
    obtain ⟨r, hr, er⟩ := List.mem_map.mp hm
    have : lookA f q.1 = some r.2 := by rw [← er]; exact lookA_mem hk hr
    rw [this]
    exact nd r hr
theorem seen_run2 {ps : List Str} {ord : Int → List Str} {L : List Lk} (h : Agree ps ord L) : seenIn ps ((sightL (seenL L)).map encL) [] = .ok (sightL (seenL L)) ∧ Agree ps ord (sightL (seenL L)) := by
  obtain ⟨h1, h2, h3, h4⟩ := seenIn_law h
  have back : ∀ p ∈ sightL (seenL L), ∃ q ∈ L, q.1 = p.1 ∧ ∃ k, p.2 = (ord p.1).take k := fun p hp => by
    have hk : p.1 ∈ (seenL L).map (·.1) := isort_mem.mp (by rw [← sightL_keys]; exact List.mem_map_of_mem hp)
    obtain ⟨q, hq, e⟩ := List.mem_map.mp ((h4 p.1).mp hk)
    refine ⟨q, hq, e, ?_⟩
    have e2 := lookA_mem (f := sightL (seenL L)) (by rw [sightL_keys]; exact isort_nodup h2) hp
    rw [lookA_sightL hk] at e2
    have e3 := Option.some.inj e2
    cases e4 : lookA (seenL L) p.1 with
    | none => exact ⟨0, by rw [← e3, e4]; simp⟩
    | some t =>
      obtain ⟨k, ek⟩ := h3 (p.1, t) (mem_lookA e4)
      exact ⟨k, by rw [← e3, e4]; exact ek⟩
  have h' : Agree ps ord (sightL (seenL L)) := ⟨h.nb, fun p hp => by
      obtain ⟨q, hq, e, _⟩ := back p hp
      rw [← e]; exact h.nd q hq, fun p hp => by
      obtain ⟨q, hq, e, _⟩ := back p hp
      rw [← e]; exact h.sub q hq, fun p hp => by
      obtain ⟨q, hq, e, k⟩ := back p hp
      exact k⟩
  refine ⟨?_, h'⟩
  have := (seenIn_law h').1
  rwa [seenL_nodup (sightL (seenL L)) (by rw [sightL_keys]; exact isort_nodup h2)] at this
structure Drawn10 (ps : List Str) (L : List Lk) : Prop where
  nb : ∀ x ∈ ps, nameB x = true
  nd : ps.Nodup
  ne : ps ≠ []
  few : ps.length ≤ 24
  ag : ∃ ord, Agree ps ord L
  ll : L.length ≤ 60
theorem Drawn10.fits {ps : List Str} {L : List Lk} (h : Drawn10 ps L) : Fits ⟨ps, seenL L⟩ ps (sightL (seenL L)) := by
  obtain ⟨ord, ag⟩ := h.ag
  obtain ⟨h1, h2, h3, h4⟩ := seenIn_law ag
  refine sight_fits h2 fun q hq => ?_
  obtain ⟨k, e⟩ := h3 q hq
  rw [e]
  have hm : q.1 ∈ (seenL L).map (·.1) := List.mem_map_of_mem (f := fun q : Lk => q.1) hq
  obtain ⟨r, hr, er⟩ := List.mem_map.mp ((h4 q.1).mp hm)
  rw [← er]
  exact (List.take_sublist _ _).nodup (ag.nd r hr)
theorem wild_agree {ps : List Str} {L L0 : List Lk} (h : WildOf ps L0) (pm : L.Perm L0) (nb : ∀ x ∈ ps, nameB x = true) (nd : ps.Nodup) : ∃ ord, Agree ps ord L := by
  have nk := nodup_of_lt h.inc
  have key : ∀ p ∈ L, (lookA L0 p.1).getD [] = p.2 := fun p hp => by rw [lookA_mem nk (pm.mem_iff.mp hp)]; rfl
  have tops : ∀ p ∈ L, p.2.Nodup ∧ ∀ x ∈ p.2, x ∈ ps := fun p hp => by
    obtain ⟨o, po, k, e⟩ := h.pre p (pm.mem_iff.mp hp)
    rw [e]
    exact ⟨(List.take_sublist k o).nodup (po.nodup_iff.mpr nd), fun x hx => po.mem_iff.mp (List.mem_of_mem_take hx)⟩
  refine ⟨fun m => (lookA L0 m).getD [], nb, fun p hp => ?_, fun p hp x hx => ?_, fun p hp => ⟨p.2.length, ?_⟩⟩
  · rw [key p hp]; exact (tops p hp).1
  · rw [key p hp] at hx; exact (tops p hp).2 x hx
  · rw [key p hp, List.take_length]
theorem k10_name {K : PySem.W.Frag} {ns : List Int} {i : Nat} {n : Int} {r6 r8 r9 sd : Option SD} {ps : List Str} {L : List Lk} {p : Str} {M : WEnds} {E : XQ} (h : Drawn10 ps L) (hp : p ∈ ps) (hsd : SgS K ⟨ps, seenL L⟩ sd) (h6 : r6 = some (.d (.lst ((sightL (seenL L)).map encL))) ∨ r6 = some (.o (.l ((sightL (seenL L)).map encL))))
    (q : ∀ sd r8 r9, SgS K ⟨ps, seenL L⟩ sd → M.nx [some (.d (.scr ns)), some (.d (.int i)), some (.o (.l [.int n])), some (.d (sL ps)), some (.d (.lst (L.map encL))), sd, some (.d (.lst ((sightL (seenL L)).map encL))), some (.d (.str p)), r8, r9, none, none, none, none]) :
    ws_law_3_b1 (ds_Sight_init K) (ad K "Sight") (ds_Sight_eq K) (ds_stretches K) ds_l_apart ds_l_local ds_l_least ds_l_stretches ds_l_seen ds_l_cup ds_l_wild ds_l_looks ds_l_hidden ds_l_crew ds_l_pump M E
      [some (.d (.scr ns)), some (.d (.int i)), some (.o (.l [.int n])), some (.d (sL ps)), some (.d (.lst (L.map encL))), sd, r6, some (.d (.str p)), r8, r9, none, none, none, none] := by
  have ft := h.fits
  have fl := seenL_len L
  have tl := sightL_len (seenL L)
  have ll := h.ll
  have few := h.few
  have sm : Sm (⟨ps, seenL L⟩ : Sg) := ⟨by show ps.length ≤ 100; omega, by show (seenL L).length ≤ 200; omega⟩
  have al := allRows_len (ps := ps) (L := sightL (seenL L)) (p := p) (by omega) (by omega)
  have ls := least_sorted ft hp h.nd
  unfold ws_law_3_b1
  rcases hsd with rfl | rfl <;> rcases h6 with rfl | rfl
  all_goals
    walk_at "ws"
    refine ⟨ps, sightL (seenL L), p, rfl, by omega, by omega, ?_⟩
    walk_at "ws"
    refine ⟨allRows ps (sightL (seenL L)) p, rfl, al, ?_⟩
    rw [ls]
    walk_at "ws"
    refine ⟨⟨ps, seenL L⟩, p, rfl, sm, hp, h.nb p hp, ?_⟩
    walk_at "ws"
    rw [sEqX_S3, decide_eq_true rfl]
    walk_at "ws"
    refine lc_filter ((⟨ps, seenL L⟩ : Sg).least p) encS (fun _ => false) (fun Q h => by walk_at "ws"; exact h) (by have := sm.least p; omega) (okW_of rfl) (fun y hy R S hR hS => ?_) ?_
    · walk_at "ws"
      exact hS rfl
    · have e : ((⟨ps, seenL L⟩ : Sg).least p).filter (fun _ => false) = [] := by simp
      rw [e]
      walk_at "ws"
      refine ⟨⟨ps, seenL L⟩, ps, sightL (seenL L), p, rfl, ft, hp, by omega, by omega, ?_⟩
      walk_at "ws"
      rw [sEqX_S3, decide_eq_true rfl]
      walk_at "ws"
      refine ⟨(⟨ps, seenL L⟩ : Sg).least p, rfl, by have := sm.least p; omega, least_apart ft hp, ?_⟩
      walk_at "ws"
      refine ⟨by have := sm.least p; omega, ?_⟩
      walk_at "ws"
      refine ⟨⟨ps, seenL L⟩, p, rfl, sm, hp, h.nb p hp, ?_⟩
      walk_at "ws"
      rw [sEqX_S3, decide_eq_true rfl]
      walk_at "ws"
      exact q _ _ _ (.inl rfl)
abbrev k10P (K : PySem.W.Frag) (w : DSp → Addr → DSp → DSp → DSp → DSp → DSp → DSp → DSp → DSp → DSp → DSp → DSp → DSp → DSp → WS) : WS := w (ds_Sight_init K) (ad K "Sight") (ds_Sight_eq K) (ds_stretches K) ds_l_apart ds_l_local ds_l_least ds_l_stretches ds_l_seen ds_l_cup ds_l_wild ds_l_looks ds_l_hidden ds_l_crew ds_l_pump
theorem k10_rest {K : PySem.W.Frag} {ns : List Int} {i : Nat} {n : Int} {r5 r6 r7 r8 r9 : Option SD} {ps : List Str} {L : List Lk} {M : WEnds} {E : XQ} (h : Drawn10 ps L)
    (q : ∀ r5 r6 r7 r8 r9 : Option SD, M.nx [some (.d (.scr ns)), some (.d (.int i)), some (.o (.l [.int n])), some (.d (sL ps)), some (.d (.lst (L.map encL))), r5, r6, r7, r8, r9, none, none, none, none]) :
    wSeq (wPar 5 6 (wTwo (wMake (ds_Sight_init K) (ad K "Sight") 0 (wCons (wVar 3) (wCons (wVar 4) wNil))) (wFn ds_l_seen (wCons (wVar 4) wNil))))
      (wSeq (wFor (wiSeq (wVar 3)) (wgN 7) (k10P K ws_law_3_b1))
      (wIf (wB (wEqO (ds_Sight_eq K) (ad K "Sight") true (wVar 5) (eF (wMake (ds_Sight_init K) (ad K "Sight") 0 (wCons (wVar 3) (wCons (wVar 6) wNil)))))) (wRet (fS (wC (.bl false)))) wNext)) M E
      [some (.d (.scr ns)), some (.d (.int i)), some (.o (.l [.int n])), some (.d (sL ps)), some (.d (.lst (L.map encL))), r5, r6, r7, r8, r9, none, none, none, none] := by
  obtain ⟨ord, ag⟩ := h.ag
  have few := h.few
  have ll := h.ll
  have fl := seenL_len L
  have tl := sightL_len (seenL L)
  have run := (seenIn_law ag).1
  obtain ⟨run2, ag2⟩ := seen_run2 ag
  walk_at "w1"
  refine use_Sight h.nb h.nd h.ne (by omega) (vld_looks (ag.names (by omega)) (by omega)) run ?_
  walk_at "w1"
  refine ⟨L, rfl, by omega, ?_⟩
  walk_at "w1"
  refine kont_intro ?_
  refine for_map ps .str (fun pre δ => ∃ sd r6 r7 r8 r9, SgS K ⟨ps, seenL L⟩ sd ∧ (r6 = some (.d (.lst ((sightL (seenL L)).map encL))) ∨ r6 = some (.o (.l ((sightL (seenL L)).map encL)))) ∧ δ = [some (.d (.scr ns)), some (.d (.int i)), some (.o (.l [.int n])), some (.d (sL ps)), some (.d (.lst (L.map encL))), sd, r6, r7, r8, r9, none, none, none, none]) (fun Q h => by walk_at "ws"; exact h) ⟨_, _, r7, r8, r9, .inr rfl, .inr rfl, rfl⟩ ?_ ?_
  · rintro pre p post δ' ex ⟨sd, r6, r7, r8, r9, hsd, h6, rfl⟩
    have hp : p ∈ ps := by rw [ex]; simp
    walk_at "ws"
    refine k10_name h hp hsd h6 ?_
    intro sd r8 r9 hsd
    exact ⟨sd, _, _, r8, r9, hsd, .inl rfl, rfl⟩
  · rintro δ' ⟨sd, r6, r7, r8, r9, hsd, h6, rfl⟩
    rcases hsd with rfl | rfl <;> rcases h6 with rfl | rfl
    all_goals
      walk_at "wp"
      refine use_Sight h.nb h.nd h.ne (by omega) (vld_looks (ag2.names (by omega)) (by omega)) run2 ?_
      walk_at "wp"
      refine ⟨⟨ps, seenL L⟩, ⟨ps, sightL (seenL L)⟩, rfl, ?_⟩
      rw [eqSeen_sightL (seenIn_law ag).2.1, decide_eq_true rfl]
      refine ⟨true, rfl, ?_⟩
      rw [if_neg (by decide)]
      exact q _ _ _ _ _
theorem ssort_of {xs : List Str} (h : xs.Pairwise fun a b => leStr a b = true) : ssort xs = xs :=
  ((ssort_perm xs)).eq_of_pairwise (le := fun a b => leStr a b = true) (fun _ _ _ _ h1 h2 => le_antis h1 h2) (ssort_sorted xs) h
theorem step_none {s : Sg} {p : Str} {a : List St3 × Option Int} {e : Int} (h : s.begins p e = none) : leastStep s p a e = a := by
  unfold leastStep
  rw [h]
theorem step_some {s : Sg} {p : Str} {xs : List St3} {e b : Int} {l : List Str} (h : s.begins p e = some (b, l)) (hl : l.Pairwise fun a b => leStr a b = true) : leastStep s p (xs, none) e = (xs ++ l.map fun o => (b, e, o), some b) := by
  unfold leastStep
  rw [h]
  simp only [Option.all_none, if_true, ssort_of hl]
abbrev s3 : Sg := ⟨["a", "b", "c"], [(1, ["a"]), (2, ["b"]), (3, ["c"])]⟩
abbrev s2 : Sg := ⟨["a", "b", "c"], [(1, ["a", "b"]), (2, ["c"])]⟩
abbrev sF : Sg := ⟨["a", "b"], [(1, ["a"]), (3, []), (5, ["b"])]⟩
abbrev s1 : Sg := ⟨["a"], []⟩
theorem m3 : s3.moments = [1, 2, 3] := isort_of_sorted (by decide)
theorem m2 : s2.moments = [1, 2] := isort_of_sorted (by decide)
theorem mF : sF.moments = [1, 3, 5] := isort_of_sorted (by decide)
theorem m1 : s1.moments = [] := isort_of_sorted .nil
theorem least_three : s3.least "c" = ([(2, 3, "b")] : List St3) := by
  have e1 : s3.begins "c" 2 = none := by unfold Sg.begins; rw [m3]; decide +kernel
  have e2 : s3.begins "c" 3 = (some (2, ["b"]) : Option (Int × List Str)) := by unfold Sg.begins; rw [m3]; decide +kernel
  unfold Sg.least Sg.steps
  rw [m3]
  show (leastStep s3 "c" (leastStep s3 "c" ([], none) 2) 3).1 = _
  rw [step_none e1, step_some e2 (by decide +kernel)]
  rfl
theorem least_two : s2.least "c" = ([(1, 2, "a"), (1, 2, "b")] : List St3) := by
  have e2 : s2.begins "c" 2 = (some (1, ["a", "b"]) : Option (Int × List Str)) := by unfold Sg.begins; rw [m2]; decide +kernel
  unfold Sg.least Sg.steps
  rw [m2]
  show (leastStep s2 "c" ([], none) 2).1 = _
  rw [step_some e2 (by decide +kernel)]
  rfl
theorem least_far : sF.least "b" = ([(1, 5, "a")] : List St3) ∧ sF.least "a" = [] := by
  have e1 : sF.begins "b" 3 = none := by unfold Sg.begins; rw [mF]; decide +kernel
  have e2 : sF.begins "b" 5 = (some (1, ["a"]) : Option (Int × List Str)) := by unfold Sg.begins; rw [mF]; decide +kernel
  have e3 : sF.begins "a" 3 = none := by unfold Sg.begins; rw [mF]; decide +kernel
  have e4 : sF.begins "a" 5 = none := by unfold Sg.begins; rw [mF]; decide +kernel
  unfold Sg.least Sg.steps
  rw [mF]
  constructor
  · show (leastStep sF "b" (leastStep sF "b" ([], none) 3) 5).1 = _
    rw [step_none e1, step_some e2 (by decide +kernel)]
    rfl
  · show (leastStep sF "a" (leastStep sF "a" ([], none) 3) 5).1 = _
    rw [step_none e3, step_none e4]
theorem least_one : s1.least "a" = [] := by
  unfold Sg.least Sg.steps
  rw [m1]
  rfl
theorem use_lit {K : PySem.W.Frag} {ps : List Str} {L : List Lk} {Q : SD → Dl → Prop} {E : XQ} (h : (ps.all nameB && decide ps.Nodup && decide (ps ≠ []) && decide (ps.length < 100) && decide (L.length < 100) && decide ((L.map (·.1)).Nodup) && L.all fun q => decide q.2.Nodup && q.2.all fun x => decide (x ∈ ps)) = true)
    (q : Q (.d .non) [some (.p (.ob (ad K "Sight") (Sg.fs ⟨ps, L⟩))), some (.d (sL ps)), some (.d (.lst (L.map encL)))]) :
    ds_Sight_init K [some (.p (.ob (ad K "Sight") [])), some (.d (sL ps)), some (.d (.lst (L.map encL)))] Q E := by
  simp only [Bool.and_eq_true, List.all_eq_true, decide_eq_true_eq] at h
  obtain ⟨⟨⟨⟨⟨⟨h1, h2⟩, h3⟩, h4⟩, h5⟩, h6⟩, h7⟩ := h
  have key : ∀ p ∈ L, (lookA L p.1).getD [] = p.2 := fun p hp => by rw [lookA_mem h6 hp]; rfl
  have ag : Agree ps (fun m => (lookA L m).getD []) L := ⟨h1, fun p hp => by rw [key p hp]; exact (h7 p hp).1, fun p hp x hx => by rw [key p hp] at hx; exact (h7 p hp).2 x hx, fun p hp => ⟨p.2.length, by rw [key p hp, List.take_length]⟩⟩
  have run := (seenIn_law ag).1
  rw [seenL_nodup L h6] at run
  exact use_Sight h1 h2 h3 (by omega) (vld_looks (ag.names (by omega)) (by omega)) run q
def ds_law_3 (K : PySem.W.Frag) : DSp := fun α Q _ => ∃ ns : List Int, α = [some (.d (.scr ns))] ∧ Q (.d (.bl true)) α
theorem len_law_3 (K : PySem.W.Frag) (α : Dl) (Q : SD → Dl → Prop) (E : XQ) (h : ds_law_3 K α Q E) : α.length = 1 ∧ ∀ (i : Nat) (c : Cn), α[i]? ≠ some (some (.o c)) := by
  obtain ⟨x, rfl, _⟩ := h
  exact lenOf rfl rfl
theorem law_law_3 (K : PySem.W.Frag) (α : Dl) (Q : SD → Dl → Prop) (E : XQ) (h : ds_law_3 K α Q E) :
    ws_law_3 (ds_Sight_init K) (ad K "Sight") (ds_Sight_eq K) (ds_stretches K) ds_l_apart ds_l_local ds_l_least ds_l_stretches ds_l_seen ds_l_cup ds_l_wild ds_l_looks ds_l_hidden ds_l_crew ds_l_pump { nx := finD α Q (.d .non), rt := finD α Q } (finE α E) (startD N_law_3 α) := by
  obtain ⟨ns, rfl, q⟩ := h
  unfold ws_law_3
  walk_at "w1"
  refine for_rng 2 (fun i δ => ∃ r1 r2 r3 r4 r5 r6 r7 r8 r9 : Option SD, δ = [some (.d (.scr ns)), r1, r2, r3, r4, r5, r6, r7, r8, r9, none, none, none, none]) (fun Q h => by walk_at "wp"; exact ⟨⟨by decide, by decide⟩, h⟩)
    ⟨_, _, _, _, _, _, _, _, _, rfl⟩ ?_ ?_
  · rintro i δ' hi ⟨r1, r2, r3, r4, r5, r6, r7, r8, r9, rfl⟩
    unfold ws_law_3_b2
    walk_at "ws"
    refine ⟨ns, i, rfl, by omega, by omega, fun n => ?_⟩
    walk_at "ws"
    refine use_cup (by omega) (by omega) fun n1 j a0 a1 => ?_
    walk_at "ws"
    refine ⟨n1, 1 + j, rfl, by omega, by omega, fun n2 ps pl nd wd => ?_⟩
    walk_at "ws"
    refine use_cup (by omega) (by omega) fun n3 j2 b0 b1 => ?_
    walk_at "ws"
    refine ⟨n3, j2, ps, rfl, by omega, by omega, nd, by omega, by omega, fun n4 hs o0 o hl pm hk bd => ?_⟩
    have nd0 : o0.Nodup := pm.nodup_iff.mpr nd
    have nb : ∀ x ∈ ps, nameB x = true := fun x hx => wordB_name (wd x hx)
    have ne : ps ≠ [] := fun e => by rw [e] at pl; simp at pl; omega
    walk_at "ws"
    refine ⟨n4, hs, rfl, by omega, fun h hh => by
      have := ((hk.last nd0).2.2 h hh).trans pm
      rw [this.length_eq]; omega, fun n5 L hL => ?_⟩
    have ag := drawn_agree nb nd pm hk hL
    have ln := hL.len
    walk_at "ws"
    refine use_cup (by omega) (by omega) fun n6 j3 c0 c1 => ?_
    walk_at "ws"
    by_cases c : j3 = 1
    · rw [if_pos c]
      refine use_cup (by omega) (by omega) fun n7 j4 d0 d1 => ?_
      walk_at "ws"
      refine ⟨n7, j4, ps, rfl, by omega, by omega, by omega, fun n8 L' L0 l0 pm0 hw => ?_⟩
      walk_at "w1"
      refine kont_intro ?_
      have pl0 := pm0.length_eq
      refine k10_rest ⟨nb, nd, ne, by omega, wild_agree hw pm0 nb nd, by omega⟩ fun r5 r6 r7 r8 r9 => ?_
      exact ⟨_, _, _, _, _, _, _, _, _, rfl⟩
    · rw [if_neg c]
      refine kont_intro ?_
      refine k10_rest ⟨nb, nd, ne, by omega, ⟨_, ag⟩, by omega⟩ fun r5 r6 r7 r8 r9 => ?_
      exact ⟨_, _, _, _, _, _, _, _, _, rfl⟩
  · rintro δ' ⟨r1, r2, r3, r4, r5, r6, r7, r8, r9, rfl⟩
    unfold ws_law_3_t1
    walk_at "ws"
    refine use_lit (ps := ["a", "b", "c"]) (L := [(1, ["a"]), (2, ["b"]), (3, ["c"])]) (by decide +kernel) ?_
    walk_at "ws"
    refine use_lit (ps := ["a", "b", "c"]) (L := [(1, ["a", "b"]), (2, ["c"])]) (by decide +kernel) ?_
    walk_at "ws"
    unfold ws_law_3_t2
    walk_at "ws"
    refine ⟨s3, "c", rfl, ⟨by decide, by decide⟩, by decide, by decide +kernel, ?_⟩
    rw [least_three]
    have lit : ∀ (a : List St3) (Q : SD → Prop) (neg : Bool), sEqX neg (.lst (a.map encS)) (.lst (a.map encS)) Q = Q (.d (.bl (neg ^^ true))) := fun a Q neg => by rw [sEqX_S3, decide_eq_true rfl]
    walk_at "ws"
    have lit3 := fun Q neg => lit [(2, 3, "b")] Q neg
    have lit2 := fun Q neg => lit [(1, 2, "a"), (1, 2, "b")] Q neg
    have litF := fun Q neg => lit [(1, 5, "a")] Q neg
    have lit0 := fun Q neg => lit [] Q neg
    simp only [List.map_cons, List.map_nil] at lit3 lit2 litF lit0
    rw [lit3]
    walk_at "ws"
    refine ⟨s2, "c", rfl, ⟨by decide, by decide⟩, by decide, by decide +kernel, ?_⟩
    rw [least_two]
    walk_at "ws"
    try rw [lit2]
    try walk_at "ws"
    unfold ws_law_3_t3
    walk_at "ws"
    refine use_lit (ps := ["a", "b"]) (L := [(1, ["a"]), (3, []), (5, ["b"])]) (by decide +kernel) ?_
    walk_at "ws"
    unfold ws_law_3_t4
    walk_at "ws"
    refine ⟨sF, "b", rfl, ⟨by decide, by decide⟩, by decide, by decide +kernel, ?_⟩
    rw [least_far.1]
    walk_at "ws"
    try rw [litF]
    try walk_at "ws"
    refine ⟨sF, "a", rfl, ⟨by decide, by decide⟩, by decide, by decide +kernel, ?_⟩
    rw [least_far.2]
    walk_at "ws"
    refine ⟨sL ["a"], .non, rfl, by decide +kernel, rfl, fun h => absurd h (by decide +kernel), fun ps' _ e => ?_⟩
    have e := sL_inj e
    subst e
    refine ⟨rfl, ?_⟩
    refine ⟨s1, "a", rfl, ⟨by decide, by decide⟩, by decide, by decide +kernel, ?_⟩
    rw [least_one]
    walk_at "ws"
    exact q
end Sp
namespace Lk10
open PySem PySem.Spec L2 DL Sp He Hd
theorem tx_InvalidLook : ErrT PySem.Challenge.pw_seentops_k10_least_stretches er_InvalidLook := ⟨⟨by decide +kernel, by decide +kernel, by decide +kernel, by decide +kernel, by decide +kernel, by decide +kernel⟩, ⟨_, _, _, _, _, _, _, _, _, _, _, _, rfl, rfl, rfl, ⟨_, fun _ => rfl⟩, ⟨fun _ => rfl, fun _ => rfl⟩, fun _ _ _ _ _ _ _ _ us its hu hi => match us, its, hu, hi with | [_, _], [_], _, _ => ⟨_, rfl, rfl⟩⟩, by decide +kernel⟩
theorem tx_InvalidList : ErrT PySem.Challenge.pw_seentops_k10_least_stretches er_InvalidList := ⟨⟨by decide +kernel, by decide +kernel, by decide +kernel, by decide +kernel, by decide +kernel, by decide +kernel⟩, ⟨_, _, _, _, _, _, _, _, _, _, _, _, rfl, rfl, rfl, ⟨_, fun _ => rfl⟩, ⟨fun _ => rfl, fun _ => rfl⟩, fun _ _ _ _ _ _ _ _ us its hu hi => match us, its, hu, hi with | [_, _], [_], _, _ => ⟨_, rfl, rfl⟩⟩, by decide +kernel⟩
theorem tx_InvalidSight : ErrT PySem.Challenge.pw_seentops_k10_least_stretches er_InvalidSight := ⟨⟨by decide +kernel, by decide +kernel, by decide +kernel, by decide +kernel, by decide +kernel, by decide +kernel⟩, ⟨_, _, _, _, _, _, _, _, _, _, _, _, rfl, rfl, rfl, ⟨_, fun _ => rfl⟩, ⟨fun _ => rfl, fun _ => rfl⟩, fun _ _ _ _ _ _ _ _ us its hu hi => match us, its, hu, hi with | [_, _], [_], _, _ => ⟨_, rfl, rfl⟩⟩, by decide +kernel⟩
theorem tx_InvalidName : ErrT PySem.Challenge.pw_seentops_k10_least_stretches er_InvalidName := ⟨⟨by decide +kernel, by decide +kernel, by decide +kernel, by decide +kernel, by decide +kernel, by decide +kernel⟩, ⟨_, _, _, _, _, _, _, _, _, _, _, _, rfl, rfl, rfl, ⟨_, fun _ => rfl⟩, ⟨fun _ => rfl, fun _ => rfl⟩, fun _ _ _ _ _ _ _ _ us its hu hi => match us, its, hu, hi with | [_, _], [_], _, _ => ⟨_, rfl, rfl⟩⟩, by decide +kernel⟩
theorem tx_Unknown : ErrT PySem.Challenge.pw_seentops_k10_least_stretches er_Unknown := ⟨⟨by decide +kernel, by decide +kernel, by decide +kernel, by decide +kernel, by decide +kernel, by decide +kernel⟩, ⟨_, _, _, _, _, _, _, _, _, _, _, _, rfl, rfl, rfl, ⟨_, fun _ => rfl⟩, ⟨fun _ => rfl, fun _ => rfl⟩, fun _ _ _ _ _ _ _ _ us its hu hi => match us, its, hu, hi with | [_, _], [_], _, _ => ⟨_, rfl, rfl⟩⟩, by decide +kernel⟩
theorem tx_InvalidNumber : ErrT PySem.Challenge.pw_seentops_k10_least_stretches er_InvalidNumber := ⟨⟨by decide +kernel, by decide +kernel, by decide +kernel, by decide +kernel, by decide +kernel, by decide +kernel⟩, ⟨_, _, _, _, _, _, _, _, _, _, _, _, rfl, rfl, rfl, ⟨_, fun _ => rfl⟩, ⟨fun _ => rfl, fun _ => rfl⟩, fun _ _ _ _ _ _ _ _ us its hu hi => match us, its, hu, hi with | [_, _], [_], _, _ => ⟨_, rfl, rfl⟩⟩, by decide +kernel⟩
theorem more {P : Program} {K : PySem.W.Frag} (c : SaysH P fa fn er ex K) (i : Nat) {b : Bool} (h : (exs K)[i]? = some b) : b = true := List.all_eq_true.mp c.more b (List.mem_of_getElem? h)
theorem facts {w : World} {K : PySem.W.Frag} {h : Heap} {mg : Str → Option Value} {f : Addr} (X : K.In h) (G : h.Ns mainGlobals mg) (hfa : mg ("law" : Str) = some (.ref f)) (c : SaysH PySem.Challenge.pw_seentops_k10_least_stretches fa fn er ex K) :
    ∃ fd : FuncData, (∀ (s : Shared) (v : Value), BindsTo s fd ⟨[v], []⟩ [("_law_script", v)]) ∧ ∀ base : Heap, FnOk PySem.Challenge.pw_seentops_k10_least_stretches w K mg base (L2.CX PySem.Challenge.pw_seentops_k10_least_stretches w) 8 f fd ["_law_script"] (toSp K (ds_law_3 K)) := by
  have n_len := free_ok X G (c.d.fact 0 rfl)
  have n_isinstance := free_ok X G (c.d.fact 1 rfl)
  have n_str := free_ok X G (c.d.fact 2 rfl)
  obtain ⟨t_LETTERS, g_LETTERS⟩ := str_ok X G (c.d.fact 3 rfl)
  have m_is_name := glo_ok X G (c.d.fact 4 rfl)
  have n_list := free_ok X G (c.d.fact 5 rfl)
  have n_set := free_ok X G (c.d.fact 6 rfl)
  have m_are_names := glo_ok X G (c.d.fact 7 rfl)
  have n_bool := free_ok X G (c.d.fact 8 rfl)
  have n_int := free_ok X G (c.d.fact 9 rfl)
  have m_is_tops := glo_ok X G (c.d.fact 10 rfl)
  have m_is_whole := glo_ok X G (c.d.fact 11 rfl)
  have n_tuple := free_ok X G (c.d.fact 12 rfl)
  have n_max := free_ok X G (c.d.fact 13 rfl)
  have m_go_together := glo_ok X G (c.d.fact 14 rfl)
  have m_is_look := glo_ok X G (c.d.fact 15 rfl)
  have m_are_players := glo_ok X G (c.d.fact 16 rfl)
  have c_Sight := cls_ok (c.d.fact 17 rfl)
  have na_Sight_crew := noat_ok (c.d.fact 18 rfl)
  have m_seen_in := glo_ok X G (c.d.fact 19 rfl)
  have na_Sight_seen := noat_ok (c.d.fact 20 rfl)
  have m_Sight := glo_ok X G (c.d.fact 21 rfl)
  have m_check_name := glo_ok X G (c.d.fact 22 rfl)
  have n_sorted := free_ok X G (c.d.fact 23 rfl)
  have mth_Sight_moments := meth_ok (c.d.fact 24 rfl)
  have m_check_whole := glo_ok X G (c.d.fact 25 rfl)
  have mth_Sight_check_moment := meth_ok (c.d.fact 26 rfl)
  have mth_Sight_players := meth_ok (c.d.fact 27 rfl)
  have m_known_above := glo_ok X G (c.d.fact 28 rfl)
  have mth_Sight_tops := meth_ok (c.d.fact 29 rfl)
  have m_steps_of := glo_ok X G (c.d.fact 30 rfl)
  have m_begins_before := glo_ok X G (c.d.fact 31 rfl)
  have m_check_sight := glo_ok X G (c.d.fact 32 rfl)
  have m_check_player := glo_ok X G (c.d.fact 33 rfl)
  have m_least_of := glo_ok X G (c.d.fact 34 rfl)
  have n_range := free_ok X G (c.d.fact 35 rfl)
  have m__law_known := glo_ok X G (c.d.fact 36 rfl)
  have m__law_cup := glo_ok X G (c.d.fact 37 rfl)
  have m__law_mixed := glo_ok X G (c.d.fact 38 rfl)
  have n_min := free_ok X G (c.d.fact 39 rfl)
  have m__law_lifted := glo_ok X G (c.d.fact 40 rfl)
  have mkr_Sight := mkr_ok (c.d.fact 41 rfl)
  have mth_Sight___eq__ := meth_ok (c.d.fact 42 rfl)
  have m_stretches := glo_ok X G (c.d.fact 43 rfl)
  have m__law_apart := glo_ok X G (c.d.fact 44 rfl)
  have m__law_local := glo_ok X G (c.d.fact 45 rfl)
  have m__law_least := glo_ok X G (c.d.fact 46 rfl)
  have m__law_stretches := glo_ok X G (c.d.fact 47 rfl)
  have m__law_seen := glo_ok X G (c.d.fact 48 rfl)
  have m__law_wild := glo_ok X G (c.d.fact 49 rfl)
  have m__law_looks := glo_ok X G (c.d.fact 50 rfl)
  have m__law_hidden := glo_ok X G (c.d.fact 51 rfl)
  have m__law_crew := glo_ok X G (c.d.fact 52 rfl)
  have m__law_pump := glo_ok X G (c.d.fact 53 rfl)
  have m_law := glo_ok X G (c.d.fact 54 rfl)
  have isi_Sight := isiB_ok c_Sight (more c 0 rfl)
  have ki_Sight := of_decide_eq_true (more c 1 rfl)
  have eqc_Sight := eqcB_ok (more c 2 rfl)
  have e_InvalidLook := isErr_of X G tx_InvalidLook (c.err 0 rfl).1 (c.err 0 rfl).2
  have e_InvalidList := isErr_of X G tx_InvalidList (c.err 1 rfl).1 (c.err 1 rfl).2
  have e_InvalidSight := isErr_of X G tx_InvalidSight (c.err 2 rfl).1 (c.err 2 rfl).2
  have e_InvalidName := isErr_of X G tx_InvalidName (c.err 3 rfl).1 (c.err 3 rfl).2
  have e_Unknown := isErr_of X G tx_Unknown (c.err 4 rfl).1 (c.err 4 rfl).2
  have e_InvalidNumber := isErr_of X G tx_InvalidNumber (c.err 5 rfl).1 (c.err 5 rfl).2
  obtain ⟨fd_is_name, F_is_name⟩ : ∃ fd, FunS K "is_name" "is_name" st_is_name [] (ga K "is_name") fd := c.d.def_ 0 (d := d_is_name) rfl
  obtain ⟨fd_are_names, F_are_names⟩ : ∃ fd, FunS K "are_names" "are_names" st_are_names [] (ga K "are_names") fd := c.d.def_ 1 (d := d_are_names) rfl
  obtain ⟨fd_are_players, F_are_players⟩ : ∃ fd, FunS K "are_players" "are_players" st_are_players [] (ga K "are_players") fd := c.d.def_ 2 (d := d_are_players) rfl
  obtain ⟨fd_go_together, F_go_together⟩ : ∃ fd, FunS K "go_together" "go_together" st_go_together [] (ga K "go_together") fd := c.d.def_ 3 (d := d_go_together) rfl
  obtain ⟨fd_is_tops, F_is_tops⟩ : ∃ fd, FunS K "is_tops" "is_tops" st_is_tops [] (ga K "is_tops") fd := c.d.def_ 4 (d := d_is_tops) rfl
  obtain ⟨fd_is_whole, F_is_whole⟩ : ∃ fd, FunS K "is_whole" "is_whole" st_is_whole [] (ga K "is_whole") fd := c.d.def_ 5 (d := d_is_whole) rfl
  obtain ⟨fd_is_look, F_is_look⟩ : ∃ fd, FunS K "is_look" "is_look" st_is_look [] (ga K "is_look") fd := c.d.def_ 6 (d := d_is_look) rfl
  obtain ⟨fd_seen_in, F_seen_in⟩ : ∃ fd, FunS K "seen_in" "seen_in" st_seen_in [] (ga K "seen_in") fd := c.d.def_ 7 (d := d_seen_in) rfl
  obtain ⟨fd_Sight_init, F_Sight_init⟩ : ∃ fd, FunS K "__init__" "Sight.__init__" st_Sight_init [V.non] (ma K (ga K "Sight") "__init__") fd := c.d.def_ 8 (d := d_Sight_init) rfl
  obtain ⟨fd_Sight_eq, F_Sight_eq⟩ : ∃ fd, FunS K "__eq__" "Sight.__eq__" st_Sight_eq [] (ma K (ga K "Sight") "__eq__") fd := c.d.def_ 9 (d := d_Sight_eq) rfl
  obtain ⟨fd_check_sight, F_check_sight⟩ : ∃ fd, FunS K "check_sight" "check_sight" st_check_sight [] (ga K "check_sight") fd := c.d.def_ 10 (d := d_check_sight) rfl
  obtain ⟨fd_check_name, F_check_name⟩ : ∃ fd, FunS K "check_name" "check_name" st_check_name [] (ga K "check_name") fd := c.d.def_ 11 (d := d_check_name) rfl
  obtain ⟨fd_check_player, F_check_player⟩ : ∃ fd, FunS K "check_player" "check_player" st_check_player [] (ga K "check_player") fd := c.d.def_ 12 (d := d_check_player) rfl
  obtain ⟨fd_Sight_moments, F_Sight_moments⟩ : ∃ fd, FunS K "moments" "Sight.moments" st_Sight_moments [] (ma K (ga K "Sight") "moments") fd := c.d.def_ 13 (d := d_Sight_moments) rfl
  obtain ⟨fd_steps_of, F_steps_of⟩ : ∃ fd, FunS K "steps_of" "steps_of" st_steps_of [] (ga K "steps_of") fd := c.d.def_ 14 (d := d_steps_of) rfl
  obtain ⟨fd_Sight_players, F_Sight_players⟩ : ∃ fd, FunS K "players" "Sight.players" st_Sight_players [] (ma K (ga K "Sight") "players") fd := c.d.def_ 15 (d := d_Sight_players) rfl
  obtain ⟨fd_known_above, F_known_above⟩ : ∃ fd, FunS K "known_above" "known_above" st_known_above [] (ga K "known_above") fd := c.d.def_ 16 (d := d_known_above) rfl
  obtain ⟨fd_check_whole, F_check_whole⟩ : ∃ fd, FunS K "check_whole" "check_whole" st_check_whole [] (ga K "check_whole") fd := c.d.def_ 17 (d := d_check_whole) rfl
  obtain ⟨fd_Sight_check_moment, F_Sight_check_moment⟩ : ∃ fd, FunS K "check_moment" "Sight.check_moment" st_Sight_check_moment [] (ma K (ga K "Sight") "check_moment") fd := c.d.def_ 18 (d := d_Sight_check_moment) rfl
  obtain ⟨fd_Sight_tops, F_Sight_tops⟩ : ∃ fd, FunS K "tops" "Sight.tops" st_Sight_tops [] (ma K (ga K "Sight") "tops") fd := c.d.def_ 19 (d := d_Sight_tops) rfl
  obtain ⟨fd_begins_before, F_begins_before⟩ : ∃ fd, FunS K "begins_before" "begins_before" st_begins_before [] (ga K "begins_before") fd := c.d.def_ 20 (d := d_begins_before) rfl
  obtain ⟨fd_least_of_2, F_least_of_2⟩ : ∃ fd, FunS K "least_of" "least_of" st_least_of_2 [] (ga K "least_of") fd := c.d.def_ 21 (d := d_least_of_2) rfl
  obtain ⟨fd_stretches, F_stretches⟩ : ∃ fd, FunS K "stretches" "stretches" st_stretches [] (ga K "stretches") fd := c.d.def_ 22 (d := d_stretches) rfl
  obtain ⟨fd_l_apart, F_l_apart⟩ : ∃ fd, FunS K "_law_apart" "_law_apart" st_l_apart [] (ga K "_law_apart") fd := c.d.def_ 23 (d := d_l_apart) rfl
  obtain ⟨fd_l_known, F_l_known⟩ : ∃ fd, FunS K "_law_known" "_law_known" st_l_known [] (ga K "_law_known") fd := c.d.def_ 24 (d := d_l_known) rfl
  obtain ⟨fd_l_local, F_l_local⟩ : ∃ fd, FunS K "_law_local" "_law_local" st_l_local [] (ga K "_law_local") fd := c.d.def_ 25 (d := d_l_local) rfl
  obtain ⟨fd_l_least, F_l_least⟩ : ∃ fd, FunS K "_law_least" "_law_least" st_l_least [] (ga K "_law_least") fd := c.d.def_ 26 (d := d_l_least) rfl
  obtain ⟨fd_l_stretches, F_l_stretches⟩ : ∃ fd, FunS K "_law_stretches" "_law_stretches" st_l_stretches [] (ga K "_law_stretches") fd := c.d.def_ 27 (d := d_l_stretches) rfl
  obtain ⟨fd_l_seen, F_l_seen⟩ : ∃ fd, FunS K "_law_seen" "_law_seen" st_l_seen [] (ga K "_law_seen") fd := c.d.def_ 28 (d := d_l_seen) rfl
  obtain ⟨fd_l_cup, F_l_cup⟩ : ∃ fd, FunS K "_law_cup" "_law_cup" st_l_cup [] (ga K "_law_cup") fd := c.d.def_ 29 (d := d_l_cup) rfl
  obtain ⟨fd_l_mixed, F_l_mixed⟩ : ∃ fd, FunS K "_law_mixed" "_law_mixed" st_l_mixed [] (ga K "_law_mixed") fd := c.d.def_ 30 (d := d_l_mixed) rfl
  obtain ⟨fd_l_wild, F_l_wild⟩ : ∃ fd, FunS K "_law_wild" "_law_wild" st_l_wild [] (ga K "_law_wild") fd := c.d.def_ 31 (d := d_l_wild) rfl
  obtain ⟨fd_l_looks, F_l_looks⟩ : ∃ fd, FunS K "_law_looks" "_law_looks" st_l_looks [] (ga K "_law_looks") fd := c.d.def_ 32 (d := d_l_looks) rfl
  obtain ⟨fd_l_lifted, F_l_lifted⟩ : ∃ fd, FunS K "_law_lifted" "_law_lifted" st_l_lifted [] (ga K "_law_lifted") fd := c.d.def_ 33 (d := d_l_lifted) rfl
  obtain ⟨fd_l_hidden, F_l_hidden⟩ : ∃ fd, FunS K "_law_hidden" "_law_hidden" st_l_hidden [] (ga K "_law_hidden") fd := c.d.def_ 34 (d := d_l_hidden) rfl
  obtain ⟨fd_l_crew, F_l_crew⟩ : ∃ fd, FunS K "_law_crew" "_law_crew" st_l_crew [] (ga K "_law_crew") fd := c.d.def_ 35 (d := d_l_crew) rfl
  obtain ⟨fd_l_pump, F_l_pump⟩ : ∃ fd, FunS K "_law_pump" "_law_pump" st_l_pump [] (ga K "_law_pump") fd := c.d.def_ 36 (d := d_l_pump) rfl
  obtain ⟨fd_law_3, F_law_3⟩ : ∃ fd, FunS K "law" "law" st_law_3 [] (ga K "law") fd := c.d.def_ 37 (d := d_law_3) rfl
  have el : f = ga K "law" := by
    have := hfa.symm.trans m_law
    cases this
    rfl
  subst el
  refine ⟨fd_law_3, fun s v => FunD.bindsA (ps := ["_law_script"]) F_law_3 (fun _ _ _ _ _ _ us hl => match us, hl with | [_], _ => rfl) s [v] rfl, fun base => ?_⟩
  have i_is_name : IsFn PySem.Challenge.pw_seentops_k10_least_stretches w K mg base "is_name" 1 ["value"] (ds_is_name) := isFn_D F_is_name m_is_name (FunD.bindsN (ps := ["value"]) F_is_name fun _ _ _ _ _ _ us hl => match us, hl with | [_], _ => rfl) sc_is_name (fun _ _ _ _ _ _ C => der_is_name (n_len := n_len) (n_isinstance := n_isinstance) (n_str := n_str) (g_LETTERS := g_LETTERS) (C := C)) (len_is_name) (law_is_name)
  have i_are_names : IsFn PySem.Challenge.pw_seentops_k10_least_stretches w K mg base "are_names" 2 ["value"] (ds_are_names) := isFn_D F_are_names m_are_names (FunD.bindsN (ps := ["value"]) F_are_names fun _ _ _ _ _ _ us hl => match us, hl with | [_], _ => rfl) sc_are_names (fun _ _ _ _ _ _ C => der_are_names (i_is_name := i_is_name) (n_isinstance := n_isinstance) (n_list := n_list) (n_len := n_len) (n_set := n_set) (C := C)) (len_are_names) (law_are_names)
  have i_are_players : IsFn PySem.Challenge.pw_seentops_k10_least_stretches w K mg base "are_players" 3 ["value"] (ds_are_players) := isFn_D F_are_players m_are_players (FunD.bindsN (ps := ["value"]) F_are_players fun _ _ _ _ _ _ us hl => match us, hl with | [_], _ => rfl) sc_are_players (fun _ _ _ _ _ _ C => der_are_players (i_are_names := i_are_names) (C := C)) (len_are_players) (law_are_players)
  have i_go_together : IsFn PySem.Challenge.pw_seentops_k10_least_stretches w K mg base "go_together" 1 ["one", "other"] (ds_go_together) := isFn_D F_go_together m_go_together (FunD.bindsN (ps := ["one", "other"]) F_go_together fun _ _ _ _ _ _ us hl => match us, hl with | [_, _], _ => rfl) sc_go_together (fun _ _ _ _ _ _ C => der_go_together (n_len := n_len) (C := C)) (len_go_together) (law_go_together)
  have i_is_tops : IsFn PySem.Challenge.pw_seentops_k10_least_stretches w K mg base "is_tops" 3 ["value", "players"] (ds_is_tops) := isFn_D F_is_tops m_is_tops (FunD.bindsN (ps := ["value", "players"]) F_is_tops fun _ _ _ _ _ _ us hl => match us, hl with | [_, _], _ => rfl) sc_is_tops (fun _ _ _ _ _ _ C => der_is_tops (i_are_names := i_are_names) (C := C)) (len_is_tops) (law_is_tops)
  have i_is_whole : IsFn PySem.Challenge.pw_seentops_k10_least_stretches w K mg base "is_whole" 1 ["value"] (ds_is_whole) := isFn_D F_is_whole m_is_whole (FunD.bindsN (ps := ["value"]) F_is_whole fun _ _ _ _ _ _ us hl => match us, hl with | [_], _ => rfl) sc_is_whole (fun _ _ _ _ _ _ C => der_is_whole (n_isinstance := n_isinstance) (n_bool := n_bool) (n_int := n_int) (C := C)) (len_is_whole) (law_is_whole)
  have i_is_look : IsFn PySem.Challenge.pw_seentops_k10_least_stretches w K mg base "is_look" 4 ["value", "players"] (ds_is_look) := isFn_D F_is_look m_is_look (FunD.bindsN (ps := ["value", "players"]) F_is_look fun _ _ _ _ _ _ us hl => match us, hl with | [_, _], _ => rfl) sc_is_look (fun _ _ _ _ _ _ C => der_is_look (i_is_tops := i_is_tops) (i_is_whole := i_is_whole) (n_len := n_len) (n_isinstance := n_isinstance) (n_tuple := n_tuple) (C := C)) (len_is_look) (law_is_look)
  have i_seen_in : IsFn PySem.Challenge.pw_seentops_k10_least_stretches w K mg base "seen_in" 5 ["players", "looks"] (ds_seen_in K) := isFn_D F_seen_in m_seen_in (FunD.bindsN (ps := ["players", "looks"]) F_seen_in fun _ _ _ _ _ _ us hl => match us, hl with | [_, _], _ => rfl) sc_seen_in (fun _ _ _ _ _ _ C => der_seen_in (n_max := n_max) (n_len := n_len) (n_list := n_list) (i_go_together := i_go_together) (e_InvalidLook := e_InvalidLook) (i_is_look := i_is_look) (C := C)) (len_seen_in K) (law_seen_in K)
  have mk_Sight : IsMk PySem.Challenge.pw_seentops_k10_least_stretches w K mg base "Sight" (ga K "Sight") 6 ["self", "players", "looks"] 0 (ds_Sight_init K) := isMk_D F_Sight_init m_Sight mkr_Sight (binds_full (ps := ["self", "players", "looks"]) F_Sight_init (by simp) fun _ _ _ _ _ _ _ us its hu hi => match us, its, hu, hi with | [_, _, _], [_], _, _ => ⟨_, rfl, rfl⟩) sc_Sight_init (fun _ _ _ _ _ _ C => der_Sight_init (i_are_players := i_are_players) (e_InvalidList := e_InvalidList) (n_isinstance := n_isinstance) (n_list := n_list) (n_tuple := n_tuple) (c_Sight := c_Sight) (na_Sight_crew := na_Sight_crew) (i_seen_in := i_seen_in) (na_Sight_seen := na_Sight_seen) (C := C)) (len_Sight_init K) (law_Sight_init K)
  have mk_Sight_1 : IsMk PySem.Challenge.pw_seentops_k10_least_stretches w K mg base "Sight" (ga K "Sight") 6 ["self", "players", "looks"] 1 (ds_Sight_init K) := isMk_D F_Sight_init m_Sight mkr_Sight (binds_none (ps := ["self", "players", "looks"]) F_Sight_init 2 rfl fun _ _ _ _ _ _ _ us its hu hi => match us, its, hu, hi with | [_, _], [_], _, _ => ⟨_, rfl, rfl⟩) sc_Sight_init (fun _ _ _ _ _ _ C => der_Sight_init (i_are_players := i_are_players) (e_InvalidList := e_InvalidList) (n_isinstance := n_isinstance) (n_list := n_list) (n_tuple := n_tuple) (c_Sight := c_Sight) (na_Sight_crew := na_Sight_crew) (i_seen_in := i_seen_in) (na_Sight_seen := na_Sight_seen) (C := C)) (len_Sight_init K) (law_Sight_init K)
  have me_Sight___eq__ : IsMeth PySem.Challenge.pw_seentops_k10_least_stretches w K mg base (ga K "Sight") "__eq__" 1 ["self", "other"] 0 (ds_Sight_eq K) := isMeth_D F_Sight_eq c_Sight mth_Sight___eq__ (FunD.bindsN (ps := ["self", "other"]) F_Sight_eq fun _ _ _ _ _ _ us hl => match us, hl with | [_, _], _ => rfl) sc_Sight_eq (fun _ _ _ _ _ _ C => der_Sight_eq (c_Sight := c_Sight) (na_Sight_seen := na_Sight_seen) (na_Sight_crew := na_Sight_crew) (m_Sight := m_Sight) (isi_Sight := isi_Sight) (n_isinstance := n_isinstance) (C := C)) (len_Sight_eq K) (law_Sight_eq K ki_Sight)
  have i_check_sight : IsFn PySem.Challenge.pw_seentops_k10_least_stretches w K mg base "check_sight" 1 ["value"] (ds_check_sight K) := isFn_D F_check_sight m_check_sight (FunD.bindsN (ps := ["value"]) F_check_sight fun _ _ _ _ _ _ us hl => match us, hl with | [_], _ => rfl) sc_check_sight (fun _ _ _ _ _ _ C => der_check_sight (m_Sight := m_Sight) (isi_Sight := isi_Sight) (n_isinstance := n_isinstance) (e_InvalidSight := e_InvalidSight) (C := C)) (len_check_sight K) (law_check_sight K ki_Sight)
  have i_check_name : IsFn PySem.Challenge.pw_seentops_k10_least_stretches w K mg base "check_name" 2 ["value"] (ds_check_name K) := isFn_D F_check_name m_check_name (FunD.bindsN (ps := ["value"]) F_check_name fun _ _ _ _ _ _ us hl => match us, hl with | [_], _ => rfl) sc_check_name (fun _ _ _ _ _ _ C => der_check_name (i_is_name := i_is_name) (e_InvalidName := e_InvalidName) (C := C)) (len_check_name K) (law_check_name K)
  have i_check_player : IsFn PySem.Challenge.pw_seentops_k10_least_stretches w K mg base "check_player" 3 ["sight", "value"] (ds_check_player K) := isFn_D F_check_player m_check_player (FunD.bindsN (ps := ["sight", "value"]) F_check_player fun _ _ _ _ _ _ us hl => match us, hl with | [_, _], _ => rfl) sc_check_player (fun _ _ _ _ _ _ C => der_check_player (i_check_name := i_check_name) (c_Sight := c_Sight) (na_Sight_crew := na_Sight_crew) (e_Unknown := e_Unknown) (C := C)) (len_check_player K) (law_check_player K)
  have me_Sight_moments : IsMeth PySem.Challenge.pw_seentops_k10_least_stretches w K mg base (ga K "Sight") "moments" 1 ["self"] 0 (ds_Sight_moments K) := isMeth_D F_Sight_moments c_Sight mth_Sight_moments (FunD.bindsN (ps := ["self"]) F_Sight_moments fun _ _ _ _ _ _ us hl => match us, hl with | [_], _ => rfl) sc_Sight_moments (fun _ _ _ _ _ _ C => der_Sight_moments (c_Sight := c_Sight) (na_Sight_seen := na_Sight_seen) (n_list := n_list) (n_sorted := n_sorted) (C := C)) (len_Sight_moments K) (law_Sight_moments K)
  have i_steps_of : IsFn PySem.Challenge.pw_seentops_k10_least_stretches w K mg base "steps_of" 2 ["sight"] (ds_steps_of K) := isFn_D F_steps_of m_steps_of (FunD.bindsN (ps := ["sight"]) F_steps_of fun _ _ _ _ _ _ us hl => match us, hl with | [_], _ => rfl) sc_steps_of (fun _ _ _ _ _ _ C => der_steps_of (me_Sight_moments := me_Sight_moments) (C := C)) (len_steps_of K) (law_steps_of K)
  have me_Sight_players : IsMeth PySem.Challenge.pw_seentops_k10_least_stretches w K mg base (ga K "Sight") "players" 1 ["self"] 0 (ds_Sight_players K) := isMeth_D F_Sight_players c_Sight mth_Sight_players (FunD.bindsN (ps := ["self"]) F_Sight_players fun _ _ _ _ _ _ us hl => match us, hl with | [_], _ => rfl) sc_Sight_players (fun _ _ _ _ _ _ C => der_Sight_players (c_Sight := c_Sight) (na_Sight_crew := na_Sight_crew) (n_list := n_list) (C := C)) (len_Sight_players K) (law_Sight_players K)
  have i_known_above : IsFn PySem.Challenge.pw_seentops_k10_least_stretches w K mg base "known_above" 1 ["tops", "one", "other"] (ds_known_above) := isFn_D F_known_above m_known_above (FunD.bindsN (ps := ["tops", "one", "other"]) F_known_above fun _ _ _ _ _ _ us hl => match us, hl with | [_, _, _], _ => rfl) sc_known_above (fun _ _ _ _ _ _ C => der_known_above  (C := C)) (len_known_above) (law_known_above)
  have i_check_whole : IsFn PySem.Challenge.pw_seentops_k10_least_stretches w K mg base "check_whole" 2 ["value"] (ds_check_whole K) := isFn_D F_check_whole m_check_whole (FunD.bindsN (ps := ["value"]) F_check_whole fun _ _ _ _ _ _ us hl => match us, hl with | [_], _ => rfl) sc_check_whole (fun _ _ _ _ _ _ C => der_check_whole (i_is_whole := i_is_whole) (e_InvalidNumber := e_InvalidNumber) (C := C)) (len_check_whole K) (law_check_whole K)
  have me_Sight_check_moment : IsMeth PySem.Challenge.pw_seentops_k10_least_stretches w K mg base (ga K "Sight") "check_moment" 3 ["self", "moment"] 0 (ds_Sight_check_moment K) := isMeth_D F_Sight_check_moment c_Sight mth_Sight_check_moment (FunD.bindsN (ps := ["self", "moment"]) F_Sight_check_moment fun _ _ _ _ _ _ us hl => match us, hl with | [_, _], _ => rfl) sc_Sight_check_moment (fun _ _ _ _ _ _ C => der_Sight_check_moment (i_check_whole := i_check_whole) (c_Sight := c_Sight) (na_Sight_seen := na_Sight_seen) (e_Unknown := e_Unknown) (C := C)) (len_Sight_check_moment K) (law_Sight_check_moment K)
  have me_Sight_tops : IsMeth PySem.Challenge.pw_seentops_k10_least_stretches w K mg base (ga K "Sight") "tops" 4 ["self", "moment"] 0 (ds_Sight_tops K) := isMeth_D F_Sight_tops c_Sight mth_Sight_tops (FunD.bindsN (ps := ["self", "moment"]) F_Sight_tops fun _ _ _ _ _ _ us hl => match us, hl with | [_, _], _ => rfl) sc_Sight_tops (fun _ _ _ _ _ _ C => der_Sight_tops (me_Sight_check_moment := me_Sight_check_moment) (c_Sight := c_Sight) (na_Sight_seen := na_Sight_seen) (n_list := n_list) (C := C)) (len_Sight_tops K) (law_Sight_tops K)
  have i_begins_before : IsFn PySem.Challenge.pw_seentops_k10_least_stretches w K mg base "begins_before" 5 ["sight", "player", "end"] (ds_begins_before K) := isFn_D F_begins_before m_begins_before (FunD.bindsN (ps := ["sight", "player", "end"]) F_begins_before fun _ _ _ _ _ _ us hl => match us, hl with | [_, _, _], _ => rfl) sc_begins_before (fun _ _ _ _ _ _ C => der_begins_before (me_Sight_players := me_Sight_players) (i_known_above := i_known_above) (me_Sight_tops := me_Sight_tops) (me_Sight_moments := me_Sight_moments) (C := C)) (len_begins_before K) (law_begins_before K)
  have i_least_of_2 : IsFn PySem.Challenge.pw_seentops_k10_least_stretches w K mg base "least_of" 6 ["sight", "player"] (ds_least_of_2 K) := isFn_D F_least_of_2 m_least_of (FunD.bindsN (ps := ["sight", "player"]) F_least_of_2 fun _ _ _ _ _ _ us hl => match us, hl with | [_, _], _ => rfl) sc_least_of_2 (fun _ _ _ _ _ _ C => der_least_of_2 (i_steps_of := i_steps_of) (n_sorted := n_sorted) (i_begins_before := i_begins_before) (C := C)) (len_least_of_2 K) (law_least_of_2 K)
  have i_stretches : IsFn PySem.Challenge.pw_seentops_k10_least_stretches w K mg base "stretches" 7 ["sight", "player"] (ds_stretches K) := isFn_D F_stretches m_stretches (FunD.bindsN (ps := ["sight", "player"]) F_stretches fun _ _ _ _ _ _ us hl => match us, hl with | [_, _], _ => rfl) sc_stretches (fun _ _ _ _ _ _ C => der_stretches (i_check_sight := i_check_sight) (i_check_player := i_check_player) (i_least_of_2 := i_least_of_2) (C := C)) (len_stretches K) (law_stretches K)
  have i_l_apart : IsFn PySem.Challenge.pw_seentops_k10_least_stretches w K mg base "_law_apart" 1 ["_law_told"] (ds_l_apart) := isFn_D F_l_apart m__law_apart (FunD.bindsN (ps := ["_law_told"]) F_l_apart fun _ _ _ _ _ _ us hl => match us, hl with | [_], _ => rfl) sc_l_apart (fun _ _ _ _ _ _ C => der_l_apart (n_len := n_len) (n_range := n_range) (C := C)) (len_l_apart) (law_l_apart)
  have i_l_known : IsFn PySem.Challenge.pw_seentops_k10_least_stretches w K mg base "_law_known" 1 ["_law_tops", "_law_one", "_law_other"] (ds_l_known) := isFn_D F_l_known m__law_known (FunD.bindsN (ps := ["_law_tops", "_law_one", "_law_other"]) F_l_known fun _ _ _ _ _ _ us hl => match us, hl with | [_, _, _], _ => rfl) sc_l_known (fun _ _ _ _ _ _ C => der_l_known  (C := C)) (len_l_known) (law_l_known)
  have i_l_local : IsFn PySem.Challenge.pw_seentops_k10_least_stretches w K mg base "_law_local" 2 ["_law_crew_here", "_law_seen_here", "_law_name"] (ds_l_local) := isFn_D F_l_local m__law_local (FunD.bindsN (ps := ["_law_crew_here", "_law_seen_here", "_law_name"]) F_l_local fun _ _ _ _ _ _ us hl => match us, hl with | [_, _, _], _ => rfl) sc_l_local (fun _ _ _ _ _ _ C => der_l_local (n_len := n_len) (n_range := n_range) (n_sorted := n_sorted) (i_l_known := i_l_known) (C := C)) (len_l_local) (law_l_local)
  have i_l_least : IsFn PySem.Challenge.pw_seentops_k10_least_stretches w K mg base "_law_least" 1 ["_law_rows"] (ds_l_least) := isFn_D F_l_least m__law_least (FunD.bindsN (ps := ["_law_rows"]) F_l_least fun _ _ _ _ _ _ us hl => match us, hl with | [_], _ => rfl) sc_l_least (fun _ _ _ _ _ _ C => der_l_least (n_sorted := n_sorted) (C := C)) (len_l_least) (law_l_least)
  have i_l_stretches : IsFn PySem.Challenge.pw_seentops_k10_least_stretches w K mg base "_law_stretches" 2 ["_law_crew_here", "_law_seen_here", "_law_name"] (ds_l_stretches) := isFn_D F_l_stretches m__law_stretches (FunD.bindsN (ps := ["_law_crew_here", "_law_seen_here", "_law_name"]) F_l_stretches fun _ _ _ _ _ _ us hl => match us, hl with | [_, _, _], _ => rfl) sc_l_stretches (fun _ _ _ _ _ _ C => der_l_stretches (n_len := n_len) (n_range := n_range) (i_l_known := i_l_known) (C := C)) (len_l_stretches) (law_l_stretches)
  have i_l_seen : IsFn PySem.Challenge.pw_seentops_k10_least_stretches w K mg base "_law_seen" 1 ["_law_looks_here"] (ds_l_seen) := isFn_D F_l_seen m__law_seen (FunD.bindsN (ps := ["_law_looks_here"]) F_l_seen fun _ _ _ _ _ _ us hl => match us, hl with | [_], _ => rfl) sc_l_seen (fun _ _ _ _ _ _ C => der_l_seen (n_len := n_len) (n_list := n_list) (n_sorted := n_sorted) (C := C)) (len_l_seen) (law_l_seen)
  have i_l_cup : IsFn PySem.Challenge.pw_seentops_k10_least_stretches w K mg base "_law_cup" 1 ["_law_pump_here", "_law_many"] (ds_l_cup) := isFn_D F_l_cup m__law_cup (FunD.bindsN (ps := ["_law_pump_here", "_law_many"]) F_l_cup fun _ _ _ _ _ _ us hl => match us, hl with | [_, _], _ => rfl) sc_l_cup (fun _ _ _ _ _ _ C => der_l_cup (n_int := n_int) (C := C)) (len_l_cup) (law_l_cup)
  have i_l_mixed : IsFn PySem.Challenge.pw_seentops_k10_least_stretches w K mg base "_law_mixed" 2 ["_law_pump_here", "_law_rows"] (ds_l_mixed) := isFn_D F_l_mixed m__law_mixed (FunD.bindsN (ps := ["_law_pump_here", "_law_rows"]) F_l_mixed fun _ _ _ _ _ _ us hl => match us, hl with | [_, _], _ => rfl) sc_l_mixed (fun _ _ _ _ _ _ C => der_l_mixed (i_l_cup := i_l_cup) (n_len := n_len) (C := C)) (len_l_mixed) (law_l_mixed)
  have i_l_wild : IsFn PySem.Challenge.pw_seentops_k10_least_stretches w K mg base "_law_wild" 3 ["_law_pump_here", "_law_crew_here", "_law_many"] (ds_l_wild) := isFn_D F_l_wild m__law_wild (FunD.bindsN (ps := ["_law_pump_here", "_law_crew_here", "_law_many"]) F_l_wild fun _ _ _ _ _ _ us hl => match us, hl with | [_, _, _], _ => rfl) sc_l_wild (fun _ _ _ _ _ _ C => der_l_wild (i_l_cup := i_l_cup) (n_range := n_range) (i_l_mixed := i_l_mixed) (n_len := n_len) (C := C)) (len_l_wild) (law_l_wild)
  have i_l_looks : IsFn PySem.Challenge.pw_seentops_k10_least_stretches w K mg base "_law_looks" 3 ["_law_pump_here", "_law_hidden_here"] (ds_l_looks) := isFn_D F_l_looks m__law_looks (FunD.bindsN (ps := ["_law_pump_here", "_law_hidden_here"]) F_l_looks fun _ _ _ _ _ _ us hl => match us, hl with | [_, _], _ => rfl) sc_l_looks (fun _ _ _ _ _ _ C => der_l_looks (i_l_cup := i_l_cup) (n_len := n_len) (n_min := n_min) (i_l_mixed := i_l_mixed) (C := C)) (len_l_looks) (law_l_looks)
  have i_l_lifted : IsFn PySem.Challenge.pw_seentops_k10_least_stretches w K mg base "_law_lifted" 2 ["_law_pump_here", "_law_order", "_law_name"] (ds_l_lifted) := isFn_D F_l_lifted m__law_lifted (FunD.bindsN (ps := ["_law_pump_here", "_law_order", "_law_name"]) F_l_lifted fun _ _ _ _ _ _ us hl => match us, hl with | [_, _, _], _ => rfl) sc_l_lifted (fun _ _ _ _ _ _ C => der_l_lifted (i_l_cup := i_l_cup) (C := C)) (len_l_lifted) (law_l_lifted)
  have i_l_hidden : IsFn PySem.Challenge.pw_seentops_k10_least_stretches w K mg base "_law_hidden" 3 ["_law_pump_here", "_law_crew_here", "_law_many"] (ds_l_hidden) := isFn_D F_l_hidden m__law_hidden (FunD.bindsN (ps := ["_law_pump_here", "_law_crew_here", "_law_many"]) F_l_hidden fun _ _ _ _ _ _ us hl => match us, hl with | [_, _, _], _ => rfl) sc_l_hidden (fun _ _ _ _ _ _ C => der_l_hidden (i_l_mixed := i_l_mixed) (n_len := n_len) (i_l_cup := i_l_cup) (n_range := n_range) (n_sorted := n_sorted) (n_set := n_set) (n_int := n_int) (i_l_lifted := i_l_lifted) (C := C)) (len_l_hidden) (law_l_hidden)
  have i_l_crew : IsFn PySem.Challenge.pw_seentops_k10_least_stretches w K mg base "_law_crew" 2 ["_law_pump_here", "_law_many"] (ds_l_crew) := isFn_D F_l_crew m__law_crew (FunD.bindsN (ps := ["_law_pump_here", "_law_many"]) F_l_crew fun _ _ _ _ _ _ us hl => match us, hl with | [_, _], _ => rfl) sc_l_crew (fun _ _ _ _ _ _ C => der_l_crew (n_range := n_range) (i_l_cup := i_l_cup) (C := C)) (len_l_crew) (law_l_crew)
  have i_l_pump : IsFn PySem.Challenge.pw_seentops_k10_least_stretches w K mg base "_law_pump" 1 ["_law_script", "_law_at"] (ds_l_pump) := isFn_D F_l_pump m__law_pump (FunD.bindsN (ps := ["_law_script", "_law_at"]) F_l_pump fun _ _ _ _ _ _ us hl => match us, hl with | [_, _], _ => rfl) sc_l_pump (fun _ _ _ _ _ _ C => der_l_pump (n_len := n_len) (n_int := n_int) (n_range := n_range) (C := C)) (len_l_pump) (law_l_pump)
  exact okFD F_law_3 sc_law_3 (len_law_3 K) (fun cdv A outer s H E hr => der_law_3 (n_range := n_range) (mk_Sight := mk_Sight) (me_Sight___eq__ := me_Sight___eq__) (eqc_Sight := eqc_Sight) (i_stretches := i_stretches) (i_l_apart := i_l_apart) (i_l_local := i_l_local) (n_isinstance := n_isinstance) (n_tuple := n_tuple) (n_list := n_list) (i_l_least := i_l_least) (i_l_stretches := i_l_stretches) (i_l_seen := i_l_seen) (i_l_cup := i_l_cup) (i_l_wild := i_l_wild) (i_l_looks := i_l_looks) (i_l_hidden := i_l_hidden) (i_l_crew := i_l_crew) (i_l_pump := i_l_pump) (mk_Sight_1 := mk_Sight_1) (C := .one hr sc_law_3.nd)) (law_law_3 K)
end Lk10
open PySem PySem.W PySem.Calls PyProof.Rows
theorem Lk10_holds : PySem.Challenge.rw_seentops_k10_least_stretches.Holds := by
  w_on; o_law
  refine HandSHeadRun.head_any (r := OpenLaw.row PySem.Challenge.rw_seentops_k10_least_stretches) (q := view (OpenLaw.row PySem.Challenge.rw_seentops_k10_least_stretches).prog [48]) (H := Lk10.hk) (ob := Lk10.ob) (M := 8000) (loose := Lk10.loose) (d := HandSHeadRun.topDef (OpenLaw.row PySem.Challenge.rw_seentops_k10_least_stretches).prog 48) (kwd := []) Lk10.ob_eq
    (by kernel_rfl) (fun s => by kernel_rfl) Lk10.run (by kernel_rfl) (by kernel_rfl) (by kernel_rfl) (by rfl) (by first | assumption | decide +kernel) (by decide +kernel) ⟨rfl, rfl, rfl, rfl, rfl, by decide +kernel⟩ ?hw ?hc
  case hw => w_witness2
  case hc =>
    refine Hd.walk_ofH (l := PySem.Challenge.rw_seentops_k10_least_stretches) (n := 63) (k := 8) (x := "_law_script") rfl (by decide) (by kernel_rfl) ⟨rfl, by decide, by decide⟩ ?F
    intro w mg fa h Y G hmg0
    obtain ⟨K, KX, c⟩ := Y
    have hmg : mg ("law" : PySem.Str) = some (.ref fa) := by
      have e : (HandSHeadRun.topDef (OpenLaw.row PySem.Challenge.rw_seentops_k10_least_stretches).prog 48).name = ("law" : PySem.Str) := by kernel_rfl
      rw [← e]
      exact hmg0
    obtain ⟨fd, hb, hF⟩ := Lk10.facts (w := w) KX G hmg c
    exact ⟨K, fd, DL.toSp K (Sp.ds_law_3 K), KX, hb, fun H a ns hl _ hS => Hd.law_says hS fun Q E q => ⟨ns, rfl, q⟩, fun base _ _ => hF base⟩
theorem PySem.Challenge.cw_seentops_k10_least_stretches_holds : PySem.Challenge.rw_seentops_k10_least_stretches.Holds := by
  exact Lk10_holds
