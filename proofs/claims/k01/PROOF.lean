import PyProof.Rows.All
import Wide.All
import OpenK.AllK
import Wide.FinOn
import HandS.Style
import HandS.Words
import HandS.ExcSuper
import HandS.ExcField
import KE.KExcSuper
import HandS.Defaults
import HandS.HeadHook1
import HandS.HeadHook2
import HandS.HeadHook4
import HandS.HeadEnd
import HandS.Head0
import HandS.Head1
import HandS.Head2
import HandS.Base
import HandS.Call
import HandS.List
import HandS.WordsList
import HandS.Exc
import KE.DataEq
import HandS.Wide
import HandS.ExcOwn
import HandS.CallSlots
import HandS.WordsExc
import HandS.Comp
import HandS.Iter
import HandS.IsInst
import HandS.Text
import KE.SortData
import HandS.TryMany
import HandS.Dict
import HandS.Strs
import HandS.TupSets
import HandS.SetFor
import HandS.Conv
import KE.KMinBuiltin
import PyProof.WalkInts
import HandS.SortKw
import HandS.DictEq
import HandS.ListEq
import HandS.OwnEq
import HandS.More
import PyProof.StrBlock2
import HandS.HotCalls
import KE.IntTextLaws
import HandS.DictComp
import HandS.WordsDict
import HandS.DictTup
import HandS.TupLen
import KE.KStar
import HandS.ExcValue
import HandS.ExcIs
import PySem.Challenge.RW_seentops_k01_errors_made
set_option Elab.async false
set_option linter.all false
set_option maxRecDepth 100000
set_option maxHeartbeats 4000000
namespace Hd
open PySem PySem.Spec L2 He PyProof.Rows
open PyProof.Rows (envOfC)
abbrev FnE : Type := Option (Str × Str × Arguments × FuncBody × Scope × Addr × List Str × Addr)
def fnE (K : PySem.W.Frag) (nm : Str) : FnE := match K.lookup (ma K (ga K nm) "__init__") with
  | some ⟨_, _, .func fd, _⟩ => some (fd.name, fd.qualname, fd.params, fd.body, fd.scope, fd.globals, fd.closure.map (·.1), fd.builtins)
  | _ => none
structure ErrD where
  nm : Str
  qual : Str
  f : Str
  st : Stmt
def ErrD.val (e : ErrD) : FnE := some ("__init__", e.qual, defArgs e.st, .stmts (defBody e.st), defScope e.st, mainGlobals, ["__class__"], builtinsNs)
def clsB (K : PySem.W.Frag) (C : Addr) : Bool := match K.lookup C with
  | some ⟨.type t, _, .cls cd, sl⟩ => decide (t = "type") && (match cd.mro, sl.toList with
    | .ref C' :: bm, [_, _, _, _, some (.builtin n), _] => decide (C' = C) && (decide (n = "ValueError.__new__") && (!cd.hasDel && (cd.hasDict && PySem.HandSPX.refsVE bm)))
    | _, _ => false)
  | _ => false
def initB (P : Program) (K : PySem.W.Frag) (C fI : Addr) (q : Str) : Bool := match K.lookup fI with
  | some ⟨_, _, .func fd, _⟩ => (PySem.W.codeIn K fd.code q && dflB K fd.defaults [.non]) && ((match fd.code with
    | .ref cda => (match K.lookup cda with
      | some ⟨_, _, .fields vs, _⟩ => (match (vs[2]? : Option Value) with
        | some (.str file _) => ((P.main.file : Str) == file)
        | _ => false)
      | _ => false)
    | _ => false) && (match fd.closure with
    | [(_, cc)] => (match K.lookup cc with
      | some ⟨_, _, .cell (some (.ref C')), _⟩ => decide (C' = C)
      | _ => false)
    | _ => false))
  | _ => false
def errB (P : Program) (K : PySem.W.Frag) (e : ErrD) : Bool :=
  (Fa.glo e.nm).ok K && (clsB K (ga K e.nm) && (PySem.W.excInitIn K (ga K e.nm) PySem.HandSPX.veTail "ValueError.__new__" && (eqO (PySem.W.findIn K (.ref (ga K e.nm)) "__setattr__") (some (some (.builtin "object.__setattr__"))) &&
  (eqO (PySem.W.findIn K (.ref (ga K e.nm)) "__getattribute__") (some (some (.builtin "BaseException.__getattribute__"))) && (eqO (PySem.W.findIn K (.ref (ga K e.nm)) "__getattr__") (some none) && (eqO (PySem.W.findIn K (.ref (ga K e.nm)) e.f) (some none) &&
  (eqO (PySem.W.findIn K (.ref (ga K e.nm)) "__init__") (some (some (.ref (ma K (ga K e.nm) "__init__")))) && (decide (PySem.W.typeIn K (.ref (ma K (ga K e.nm) "__init__")) = some (.type "function")) && (PySem.W.keepIn K (.ref (ga K e.nm)) &&
  (decide (PySem.W.subIn K (.ref (ga K e.nm)) (.type "BaseException") = some true) && (decide (PySem.W.subIn K (.ref (ga K e.nm)) (.type "ValueError") = some true) && (decide (PySem.W.typeIn K (.ref (ga K e.nm)) = some (.type "type")) && (PySem.W.hasDictIn K (ga K e.nm) &&
  (decide (PySem.W.exmOne K (.ref (ga K e.nm)) (.ref (ga K e.nm)) = some true) && (decide (PySem.W.mroIn K (ga K e.nm) (.ref (ga K e.nm)) = some true) && (eqO (PySem.W.ks_superIn K (ga K e.nm) (ga K e.nm) "__init__") (some (some (.builtin "ValueError.__init__"))) &&
  (eqO (PySem.W.nsIn K cStatics "thirdparty.any") (some none) && ((Fa.free "super").ok K && initB P K (ga K e.nm) (ma K (ga K e.nm) "__init__") e.qual))))))))))))))))))
def asH (g : Addr → Option Obj) : Nat → List Addr
  | 0 => [mainGlobals, cStatics]
  | n + 1 => growD g (asH g n)
abbrev AlH : Type := AlD × List FnE × Bool
def obsH (P : Program) (fa : List Fa) (fn : List DefD) (er : List ErrD) (ex : PySem.W.Frag → Bool) (K : PySem.W.Frag) : AlH := (obsD fa fn K, er.map fun e => fnE K e.nm, (er.all fun e => errB P K e) && ex K)
def valH (fn : List DefD) (er : List ErrD) : AlH := (valD fn, er.map ErrD.val, true)
def SaysH (P : Program) (fa : List Fa) (fn : List DefD) (er : List ErrD) (ex : PySem.W.Frag → Bool) (K : PySem.W.Frag) : Prop := obsH P fa fn er ex K = valH fn er
def obsHG (P : Program) (n : Nat) (fa : List Fa) (fn : List DefD) (er : List ErrD) (ex : PySem.W.Frag → Bool) (g : Addr → Option Obj) : AlH := obsH P fa fn er ex (frG g (asH g n))
def hookH (P : Program) (n : Nat) (fa : List Fa) (fn : List DefD) (er : List ErrD) (ex : PySem.W.Frag → Bool) : PySem.W.Hook where
  α := AlH
  obs := fun s => obsHG P n fa fn er ex s.heap.get?
  val := fun _ => valH fn er
  says := fun _ h => ∃ K : PySem.W.Frag, K.In h ∧ SaysH P fa fn er ex K
  of := fun _ _ e => ⟨_, frG_in, e⟩
  keeps := fun _ _ _ ⟨K, hK, c⟩ k => ⟨K, PySem.W.Frag.In.keeps hK k, c⟩
theorem obsHG_eq {P : Program} {n : Nat} {fa : List Fa} {fn : List DefD} {er : List ErrD} {ex : PySem.W.Frag → Bool} {g : Addr → Option Obj} {s : Shared} (h : ∀ a, g a = s.heap.get? a) : obsHG P n fa fn er ex g = (hookH P n fa fn er ex).obs s := by
  have e : g = s.heap.get? := funext h
  rw [e] <;> rfl
end Hd
namespace Hd
open PySem PySem.Spec L2 He PyProof.Rows
def errIsB (K : PySem.W.Frag) (x : Str) : Bool := eqO (PySem.W.findIn K (.ref (ga K x)) "__class__") (some (some (.builtin "object.__class__"))) && (eqO (PySem.W.specialIn K (.builtin "object.__class__") "__get__") (some (some (.builtin "getset_descriptor.__get__"))) &&
  (decide (PySem.W.takesIn K (.builtin "object.__class__") = some true) && decide (PySem.W.mroIn K (ga K x) (.type "object") = some true)))
def kitsB (K : PySem.W.Frag) (xs : List Str) (y : Str) : Bool := xs.all fun x => decide (PySem.W.kitOne K (.ref (ga K x)) (.ref (ga K y)) = some (decide (ga K x = ga K y)))
def kitAllB (K : PySem.W.Frag) (xs : List Str) (c : Value) : Bool := xs.all fun x => decide (PySem.W.kitOne K (.ref (ga K x)) c = some true)
def apartB (K : PySem.W.Frag) (xs : List Str) : Bool := decide ((xs.map (ga K)).Nodup)
end Hd
namespace Lk01
open PySem PySem.Spec L2 He Hd
open PyProof.Rows (envOfC)
def top (i : Nat) : Stmt := PySem.Challenge.pw_seentops_k01_errors_made.main.body.getD i (.Pass ⟨0, 0, 0, 0⟩)
def inside (j : Nat) : Stmt → Stmt
  | .ClassDef _ _ _ body _ _ _ _ _ _ _ => body.getD j (.Pass ⟨0, 0, 0, 0⟩)
  | s => s
abbrev st_l_pump : Stmt := top 11
abbrev st_l_cup : Stmt := top 12
abbrev st_l_placed : Stmt := top 13
abbrev st_l_named : Stmt := top 14
abbrev st_l_bare : Stmt := top 15
abbrev st_l_fields : Stmt := top 16
abbrev st_l_kinds : Stmt := top 17
abbrev st_law_2 : Stmt := top 18
def d_l_pump : He.DefD := ⟨("_law_pump", none), "_law_pump", "_law_pump", defArgs st_l_pump, defBody st_l_pump, defScope st_l_pump, [], []⟩
def d_l_cup : He.DefD := ⟨("_law_cup", none), "_law_cup", "_law_cup", defArgs st_l_cup, defBody st_l_cup, defScope st_l_cup, [], []⟩
def d_l_named : He.DefD := ⟨("_law_named", none), "_law_named", "_law_named", defArgs st_l_named, defBody st_l_named, defScope st_l_named, [], []⟩
def d_l_placed : He.DefD := ⟨("_law_placed", none), "_law_placed", "_law_placed", defArgs st_l_placed, defBody st_l_placed, defScope st_l_placed, [], []⟩
def d_l_bare : He.DefD := ⟨("_law_bare", none), "_law_bare", "_law_bare", defArgs st_l_bare, defBody st_l_bare, defScope st_l_bare, [], []⟩
def d_l_fields : He.DefD := ⟨("_law_fields", none), "_law_fields", "_law_fields", defArgs st_l_fields, defBody st_l_fields, defScope st_l_fields, [], []⟩
def d_l_kinds : He.DefD := ⟨("_law_kinds", none), "_law_kinds", "_law_kinds", defArgs st_l_kinds, defBody st_l_kinds, defScope st_l_kinds, [], []⟩
def d_law_2 : He.DefD := ⟨("law", none), "law", "law", defArgs st_law_2, defBody st_law_2, defScope st_law_2, [], []⟩
def fn : List He.DefD := [d_l_pump, d_l_cup, d_l_named, d_l_placed, d_l_bare, d_l_fields, d_l_kinds, d_law_2]
def fa : List He.Fa := [.free "len", .free "int", .free "range", .glo "InvalidList", .free "isinstance", .glo "InvalidNumber", .glo "InvalidName", .glo "Late", .glo "InvalidSight", .glo "InvalidLook", .glo "Unknown", .glo "InvalidText", .glo "_law_pump", .glo "_law_cup", .glo "_law_named", .glo "_law_placed", .glo "_law_bare", .glo "_law_fields", .glo "_law_kinds", .free "ValueError", .glo "TopsError", .glo "law"]
def er_InvalidLook : ErrD := ⟨"InvalidLook", "InvalidLook.__init__", "value", inside 0 (top 5)⟩
def er_InvalidList : ErrD := ⟨"InvalidList", "InvalidList.__init__", "value", inside 0 (top 4)⟩
def er_InvalidNumber : ErrD := ⟨"InvalidNumber", "InvalidNumber.__init__", "value", inside 0 (top 3)⟩
def er_InvalidName : ErrD := ⟨"InvalidName", "InvalidName.__init__", "value", inside 0 (top 2)⟩
def er_Unknown : ErrD := ⟨"Unknown", "Unknown.__init__", "which", inside 0 (top 9)⟩
def er_InvalidText : ErrD := ⟨"InvalidText", "InvalidText.__init__", "spot", inside 0 (top 8)⟩
def er_Late : ErrD := ⟨"Late", "Late.__init__", "value", inside 0 (top 7)⟩
def er_InvalidSight : ErrD := ⟨"InvalidSight", "InvalidSight.__init__", "value", inside 0 (top 6)⟩
def er : List ErrD := [er_InvalidLook, er_InvalidList, er_InvalidNumber, er_InvalidName, er_Unknown, er_InvalidText, er_Late, er_InvalidSight]
def exs (K : PySem.W.Frag) : List Bool := [errIsB K "InvalidName", errIsB K "InvalidNumber", errIsB K "InvalidList", errIsB K "InvalidLook", errIsB K "InvalidSight", errIsB K "Late", errIsB K "InvalidText", errIsB K "Unknown", kitsB K ["InvalidName", "InvalidNumber", "InvalidList", "InvalidLook", "InvalidSight", "Late", "InvalidText", "Unknown"] "InvalidList", kitsB K ["InvalidName", "InvalidNumber", "InvalidList", "InvalidLook", "InvalidSight", "Late", "InvalidText", "Unknown"] "InvalidNumber", kitsB K ["InvalidName", "InvalidNumber", "InvalidList", "InvalidLook", "InvalidSight", "Late", "InvalidText", "Unknown"] "InvalidName", kitsB K ["InvalidName", "InvalidNumber", "InvalidList", "InvalidLook", "InvalidSight", "Late", "InvalidText", "Unknown"] "Late", kitsB K ["InvalidName", "InvalidNumber", "InvalidList", "InvalidLook", "InvalidSight", "Late", "InvalidText", "Unknown"] "InvalidSight", kitsB K ["InvalidName", "InvalidNumber", "InvalidList", "InvalidLook", "InvalidSight", "Late", "InvalidText", "Unknown"] "InvalidLook", kitsB K ["InvalidName", "InvalidNumber", "InvalidList", "InvalidLook", "InvalidSight", "Late", "InvalidText", "Unknown"] "Unknown", kitsB K ["InvalidName", "InvalidNumber", "InvalidList", "InvalidLook", "InvalidSight", "Late", "InvalidText", "Unknown"] "InvalidText", kitAllB K ["InvalidName", "InvalidNumber", "InvalidList", "InvalidLook", "InvalidSight", "Late", "InvalidText", "Unknown"] (.type "ValueError"), kitAllB K ["InvalidName", "InvalidNumber", "InvalidList", "InvalidLook", "InvalidSight", "Late", "InvalidText", "Unknown"] (.ref (ga K "TopsError")), apartB K ["InvalidName", "InvalidNumber", "InvalidList", "InvalidLook", "InvalidSight", "Late", "InvalidText", "Unknown"]]
def ex (K : PySem.W.Frag) : Bool := (exs K).all id
abbrev R : PySem.W.OpenRow := PySem.W.OpenLaw.row PySem.Challenge.rw_seentops_k01_errors_made
abbrev hk : PySem.W.Hook := hookH PySem.Challenge.pw_seentops_k01_errors_made 5 fa fn er ex
def ob (s : PySem.W.SharedT) : AlH := obsHG PySem.Challenge.pw_seentops_k01_errors_made 5 fa fn er ex (HandSHeadRun.getT s)
theorem ob_eq (s : PySem.W.SharedT) : ob s = hk.obs s.abs := obsHG_eq (HandSHeadRun.getT_eq s)
def loose0 : List Str := ["TopsError", "InvalidName", "InvalidNumber", "InvalidList", "InvalidLook", "InvalidSight", "Late", "InvalidText", "Unknown", "_law_pump", "_law_cup", "_law_placed", "_law_named", "_law_bare", "_law_fields", "_law_kinds"]
def loose : List Str := loose0
theorem run (w : World) : HandSHeadRun.RunEq R (PySem.W.view R.prog [18]) hk ob 8000 loose w := by
  intro os
  kernel_rfl
end Lk01
namespace DL
open PySem L2
inductive D where
  | non | bl (b : Bool) | int (i : Int) | str (x : Str)
  | lst (xs : List D) | tup (xs : List D)
  | dic (kvs : List (Key × D)) | dct (kvs : List (List Key × D))
  | obj (C : Addr) (fs : List (Str × D))
  /-- a list of ints that is only read (the script) -/
  | scr (ns : List Int)
  | vv (v : V)
  /-- a caught exception of class C: its dict, its one field -/
  | exc (a C dd : Addr) (f : Str) (x : D)
  /-- the very thing at a -/
  | at (a : Addr) (x : D)
  /-- an error of one's own, of class C, as a value: its one field -/
  | err (C : Addr) (f : Str) (x : D)
def D.strip : D → D
  | .at _ x => x.strip
  | x => x
inductive Cn where
  | l (xs : List D) | k (kvs : List (Key × D)) | t (kvs : List (List Key × D)) | ob (C : Addr) (fs : List (Str × D))
def Cn.fz : Cn → D
  | .l xs => .lst xs
  | .k kvs => .dic kvs
  | .t kvs => .dct kvs
  | .ob C fs => .obj C fs
def errO (a C dd : Addr) : Heap → Prop := fun h => ∃ t : Addr, h.get? a = some { cls := .ref C, dict := some dd, data := .fields #[.ref t, .none, .none, .none, .bool false, .none] }
section
variable (K : PySem.W.Frag) (F : Hp)
mutual
inductive Rep : V → D → Prop
  | non : Rep .non .non
  | bl (b : Bool) : Rep (.bl b) (.bl b)
  | int (i : Int) : Rep (.int i) (.int i)
  | str (x : Str) : Rep (.str x) (.str x)
  | lst {a : Addr} {vs : List V} {ds : List D} : F a = some (.lst vs) → RepL vs ds → Rep (.ref a) (.lst ds)
  | tup {a : Addr} {vs : List V} {ds : List D} : F a = some (.tup vs) → RepL vs ds → Rep (.ref a) (.tup ds)
  | scr {a : Addr} (ns : List Int) : SqL K F a (ns.map V.int) → Rep (.ref a) (.scr ns)
  | dic {a : Addr} {vs : List (Key × V)} {ds : List (Key × D)} : F a = some (.dK vs) → RepK vs ds → Rep (.ref a) (.dic ds)
  | dct {a : Addr} {vs : List (List Key × V)} {ds : List (List Key × D)} : F a = some (.dT vs) → RepT vs ds → Rep (.ref a) (.dct ds)
  | obj {a C dx : Addr} {vs : List (Str × V)} {ds : List (Str × D)} : F a = some (.ins C dx vs) → RepF vs ds → Rep (.ref a) (.obj C ds)
  | vv (v : V) : Rep v (.vv v)
  | exc {a C dd : Addr} {f : Str} {v : V} {x : D} : F dd = some (.xd [(f, v)]) → Rep v x → Rep (.ref a) (.exc a C dd f x)
  | at {a : Addr} {x : D} : Rep (.ref a) x → Rep (.ref a) (.at a x)
  | err {a C dd : Addr} {f : Str} {v : V} {x : D} : F a = some (.ext (errO a C dd)) → F dd = some (.xd [(f, v)]) → Rep v x → Rep (.ref a) (.err C f x)
inductive RepL : List V → List D → Prop
  | nil : RepL [] []
  | cons {v : V} {vs : List V} {d : D} {ds : List D} : Rep v d → RepL vs ds → RepL (v :: vs) (d :: ds)
inductive RepK : List (Key × V) → List (Key × D) → Prop
  | nil : RepK [] []
  | cons {k : Key} {v : V} {vs : List (Key × V)} {d : D} {ds : List (Key × D)} : Rep v d → RepK vs ds → RepK ((k, v) :: vs) ((k, d) :: ds)
inductive RepT : List (List Key × V) → List (List Key × D) → Prop
  | nil : RepT [] []
  | cons {k : List Key} {v : V} {vs : List (List Key × V)} {d : D} {ds : List (List Key × D)} : Rep v d → RepT vs ds → RepT ((k, v) :: vs) ((k, d) :: ds)
inductive RepF : List (Str × V) → List (Str × D) → Prop
  | nil : RepF [] []
  | cons {k : Str} {v : V} {vs : List (Str × V)} {d : D} {ds : List (Str × D)} : Rep v d → RepF vs ds → RepF ((k, v) :: vs) ((k, d) :: ds)
end
end
section
variable {K : PySem.W.Frag} {F F' : Hp}
mutual
theorem Rep.mono (s : Same F F') : ∀ {v : V} {d : D}, Rep K F v d → Rep K F' v d
  | _, _, .non => .non
  | _, _, .bl b => .bl b
  | _, _, .int i => .int i
  | _, _, .str x => .str x
  | _, _, .lst h r => .lst (s _ _ h) (RepL.mono s r)
  | _, _, .tup h r => .tup (s _ _ h) (RepL.mono s r)
  | _, _, .scr ns h => .scr ns (s.seq h)
  | _, _, .dic h r => .dic (s _ _ h) (RepK.mono s r)
  | _, _, .dct h r => .dct (s _ _ h) (RepT.mono s r)
  | _, _, .obj h r => .obj (s _ _ h) (RepF.mono s r)
  | _, _, .vv v => .vv v
  | _, _, .exc h r => .exc (s _ _ h) (Rep.mono s r)
  | _, _, .at r => .at (Rep.mono s r)
  | _, _, .err h h2 r => .err (s _ _ h) (s _ _ h2) (Rep.mono s r)
theorem RepL.mono (s : Same F F') : ∀ {vs : List V} {ds : List D}, RepL K F vs ds → RepL K F' vs ds
  | _, _, .nil => .nil
  | _, _, .cons h r => .cons (Rep.mono s h) (RepL.mono s r)
theorem RepK.mono (s : Same F F') : ∀ {vs : List (Key × V)} {ds : List (Key × D)}, RepK K F vs ds → RepK K F' vs ds
  | _, _, .nil => .nil
  | _, _, .cons h r => .cons (Rep.mono s h) (RepK.mono s r)
theorem RepT.mono (s : Same F F') : ∀ {vs : List (List Key × V)} {ds : List (List Key × D)}, RepT K F vs ds → RepT K F' vs ds
  | _, _, .nil => .nil
  | _, _, .cons h r => .cons (Rep.mono s h) (RepT.mono s r)
theorem RepF.mono (s : Same F F') : ∀ {vs : List (Str × V)} {ds : List (Str × D)}, RepF K F vs ds → RepF K F' vs ds
  | _, _, .nil => .nil
  | _, _, .cons h r => .cons (Rep.mono s h) (RepF.mono s r)
end
theorem RepL.len : ∀ {vs : List V} {ds : List D}, RepL K F vs ds → vs.length = ds.length
  | _, _, .nil => rfl
  | _, _, .cons _ r => congrArg (· + 1) (RepL.len r)
theorem RepL.get : ∀ {vs : List V} {ds : List D} {i : Nat} {d : D}, RepL K F vs ds → ds[i]? = some d → ∃ v, vs[i]? = some v ∧ Rep K F v d
  | _, _, _, _, .nil, e => by simp at e
  | _, _, 0, _, .cons h _, e => ⟨_, rfl, by cases e; exact h⟩
  | _, _, i + 1, _, .cons _ r, e => RepL.get (i := i) r e
theorem RepL.get' : ∀ {vs : List V} {ds : List D} {i : Nat} {v : V}, RepL K F vs ds → vs[i]? = some v → ∃ d, ds[i]? = some d ∧ Rep K F v d
  | _, _, _, _, .nil, e => by simp at e
  | _, _, 0, _, .cons h _, e => ⟨_, rfl, by cases e; exact h⟩
  | _, _, i + 1, _, .cons _ r, e => RepL.get' (i := i) r e
theorem RepL.app : ∀ {vs us : List V} {ds es : List D}, RepL K F vs ds → RepL K F us es → RepL K F (vs ++ us) (ds ++ es)
  | _, _, _, _, .nil, s => s
  | _, _, _, _, .cons h r, s => .cons h (RepL.app r s)
theorem RepL.take : ∀ {vs : List V} {ds : List D} (n : Nat), RepL K F vs ds → RepL K F (vs.take n) (ds.take n)
  | _, _, 0, _ => .nil
  | _, _, _ + 1, .nil => .nil
  | _, _, n + 1, .cons h r => .cons h (RepL.take n r)
theorem RepL.drop : ∀ {vs : List V} {ds : List D} (n : Nat), RepL K F vs ds → RepL K F (vs.drop n) (ds.drop n)
  | _, _, 0, r => r
  | _, _, _ + 1, .nil => .nil
  | _, _, n + 1, .cons _ r => RepL.drop n r
theorem RepL.set {v : V} {d : D} (q : Rep K F v d) : ∀ {vs : List V} {ds : List D} (n : Nat), RepL K F vs ds → RepL K F (vs.set n v) (ds.set n d)
  | _, _, _, .nil => .nil
  | _, _, 0, .cons _ r => .cons q r
  | _, _, n + 1, .cons h r => .cons h (RepL.set q n r)
theorem RepL.ints : ∀ {vs : List V} {ns : List Int}, RepL K F vs (ns.map D.int) → vs = ns.map V.int
  | _, [], .nil => rfl
  | _, n :: ns, .cons h r => by
    cases h
    rw [RepL.ints (ns := ns) r]
    rfl
theorem repInts : ∀ ns : List Int, RepL K F (ns.map V.int) (ns.map D.int)
  | [] => .nil
  | n :: ns => .cons (.int n) (repInts ns)
end
inductive SD where
  | d (x : D) | o (c : Cn) | p (c : Cn)
abbrev Dl := List (Option SD)
def SD.fz : SD → D
  | .d x => x
  | .o c => c.fz
  | .p c => c.fz
def CnR (K : PySem.W.Frag) (F : Hp) : HO → Cn → Prop
  | .lst vs, .l xs => RepL K F vs xs
  | .dK vs, .k xs => RepK K F vs xs
  | .dT vs, .t xs => RepT K F vs xs
  | .ins C' _ vs, .ob C xs => C' = C ∧ RepF K F vs xs
  | _, _ => False
theorem CnR.mono {K : PySem.W.Frag} {F F' : Hp} (s : Same F F') {ho : HO} {c : Cn} (h : CnR K F ho c) : CnR K F' ho c := by
  cases c <;> cases ho <;> first | exact h.elim | exact RepL.mono s h | exact RepK.mono s h | exact RepT.mono s h | exact ⟨h.1, RepF.mono s h.2⟩
def OwnA (K : PySem.W.Frag) (F H : Hp) (a : Addr) (c : Cn) : Prop := F a = none ∧ ∃ ho, H a = some ho ∧ CnR K F ho c
theorem CnR.lst {K : PySem.W.Frag} {F : Hp} {ho : HO} {xs : List D} (h : CnR K F ho (.l xs)) : ∃ vs, ho = .lst vs ∧ RepL K F vs xs := by
  cases ho <;> first | exact h.elim | exact ⟨_, rfl, h⟩
theorem CnR.dK {K : PySem.W.Frag} {F : Hp} {ho : HO} {xs : List (Key × D)} (h : CnR K F ho (.k xs)) : ∃ vs, ho = .dK vs ∧ RepK K F vs xs := by
  cases ho <;> first | exact h.elim | exact ⟨_, rfl, h⟩
theorem CnR.dT {K : PySem.W.Frag} {F : Hp} {ho : HO} {xs : List (List Key × D)} (h : CnR K F ho (.t xs)) : ∃ vs, ho = .dT vs ∧ RepT K F vs xs := by
  cases ho <;> first | exact h.elim | exact ⟨_, rfl, h⟩
theorem CnR.ob {K : PySem.W.Frag} {F : Hp} {ho : HO} {C : Addr} {xs : List (Str × D)} (h : CnR K F ho (.ob C xs)) : ∃ dx vs, ho = .ins C dx vs ∧ RepF K F vs xs := by
  cases ho <;> first | exact h.elim | exact ⟨_, _, by rw [h.1], h.2⟩
def isOwn (δ : Dl) (i : Nat) : Prop := ∃ c, δ[i]? = some (some (.o c)) ∨ δ[i]? = some (some (.p c))
def Ow (σ : St) (δ : Dl) (b : Addr) : Prop := ∃ i, isOwn δ i ∧ σ[i]? = some (some (.ref b))
structure Bs where
  F : Hp
  H : Hp
  O : List Addr
  σ : St
def IsKT (o : HO) : Prop := ∃ ks : List Key, o = .tup (ks.map kV)
def Kt (H : Hp) (b : Addr) (o : HO) : Prop := IsKT o ∧ H b = some o
theorem Kt.at {H : Hp} {b : Addr} {o u : HO} (h : Kt H b o) (e : H b = some u) : IsKT u := by
  have := h.2.symm.trans e
  cases this
  exact h.1
theorem Kt.none {H : Hp} {b : Addr} {o : HO} (e : H b = none) : ¬ Kt H b o := fun h => by rw [h.2] at e; cases e
theorem CnR.nkt {K : PySem.W.Frag} {F : Hp} {ho : HO} {c : Cn} (h : CnR K F ho c) : ¬ IsKT ho := fun ⟨ks, e⟩ => by
  subst e
  cases c <;> exact h.elim
structure RB (K : PySem.W.Frag) (B : Bs) (F H : Hp) (σ : St) (δ : Dl) : Prop where
  sub : Same F H
  len : δ.length = σ.length
  dat : ∀ (i : Nat) (x : D), δ[i]? = some (some (.d x)) → ∃ v, σ[i]? = some (some v) ∧ Rep K F v x
  own : ∀ (i : Nat) (c : Cn), δ[i]? = some (some (.o c)) → ∃ a, σ[i]? = some (some (.ref a)) ∧ OwnA K F H a c ∧ B.H a = none
  par : ∀ (i : Nat) (c : Cn), δ[i]? = some (some (.p c)) → ∃ a, σ[i]? = some (some (.ref a)) ∧ OwnA K F H a c ∧ a ∈ B.O ∧ B.σ[i]? = some (some (.ref a))
  apt : ∀ (i j : Nat) (a : Addr), isOwn δ i → isOwn δ j → σ[i]? = some (some (.ref a)) → σ[j]? = some (some (.ref a)) → i = j
  f0 : Same B.F F
  h0 : ∀ b o, B.H b = some o → b ∉ B.O → H b = some o
  hO : ∀ b ∈ B.O, F b = none ∧ (∃ o, H b = some o ∧ ¬ IsKT o) ∧ ∃ o, B.H b = some o
  nw : ∀ b o, F b = some o → ¬ Kt B.H b o → (∃ o', B.F b = some o') ∨ B.H b = none
structure Stp (σ : St) (δ δ' : Dl) (F H F' H' : Hp) : Prop where
  f : Same F F'
  h : ∀ b o, H b = some o → ¬ Ow σ δ b → H' b = some o
  n : ∀ b o, F' b = some o → ¬ Kt H b o → (∃ o', F b = some o') ∨ H b = none ∨ Ow σ δ b
  o : ∀ b, Ow σ δ' b → Ow σ δ b
  k : ∀ b o, H b = some o → ∃ o', H' b = some o'
theorem Stp.refl {σ : St} {δ : Dl} {F H : Hp} : Stp σ δ δ F H F H := ⟨.refl _, fun _ _ h _ => h, fun _ o h _ => .inl ⟨o, h⟩, fun _ h => h, fun _ o h => ⟨o, h⟩⟩
theorem Stp.trans {σ : St} {δ δ1 δ2 : Dl} {F H F1 H1 F2 H2 : Hp} (a : Stp σ δ δ1 F H F1 H1) (b : Stp σ δ1 δ2 F1 H1 F2 H2) : Stp σ δ δ2 F H F2 H2 := by
  refine ⟨a.f.trans b.f, fun c o e n => b.h c o (a.h c o e n) fun z => n (a.o c z), fun c o e nk => ?_, fun c z => a.o c (b.o c z), fun c o e => let ⟨o', e'⟩ := a.k c o e; b.k c o' e'⟩
  by_cases q : Ow σ δ c
  · exact .inr (.inr q)
  cases e2 : H c with
  | none => exact .inr (.inl rfl)
  | some u =>
    have h1 := a.h c u e2 q
    have nk1 : ¬ Kt H1 c o := fun z => nk ⟨z.1, by rw [e2, ← h1]; exact z.2⟩
    rcases b.n c o e nk1 with ⟨o', e1⟩ | e1 | e1
    · by_cases nk2 : Kt H c o'
      · have : o' = o := by
          have := b.f _ _ e1
          rw [e] at this
          exact (Option.some.inj this).symm
        subst this
        exact absurd nk2 nk
      · have := a.n c o' e1 nk2
        rw [e2] at this
        exact this
    · rw [h1] at e1
      cases e1
    · exact .inr (.inr (a.o c e1))
theorem OwnA.step {K : PySem.W.Frag} {σ : St} {δ δ' : Dl} {F H F' H' : Hp} {a : Addr} {c : Cn} (h : OwnA K F H a c) (s : Stp σ δ δ' F H F' H') (n : ¬ Ow σ δ a) : OwnA K F' H' a c := by
  obtain ⟨h1, ho, h2, h3⟩ := h
  refine ⟨?_, ho, s.h _ _ h2 n, h3.mono s.f⟩
  cases e : F' a with
  | none => rfl
  | some o =>
    rcases s.n a o e fun z => h3.nkt (z.at h2) with ⟨o', q⟩ | q | q
    · rw [h1] at q; cases q
    · rw [h2] at q; cases q
    · exact absurd q n
def SR (K : PySem.W.Frag) (B : Bs) (H0 F H : Hp) (σ : St) (δ : Dl) (v : V) : SD → Prop
  | .d x => Rep K F v x
  | .o c => ∃ a, v = .ref a ∧ OwnA K F H a c ∧ ¬ Ow σ δ a ∧ B.H a = none ∧ H0 a = none
  | .p _ => False
abbrev XQ := Addr → Str → D → Dl → Prop
abbrev WE := Dl → (SD → Dl → Prop) → XQ → Prop
abbrev WF := Dl → (D → Dl → Prop) → XQ → Prop
inductive Op where
  | v (i : Nat) | x (d : D)
abbrev WO := Dl → (Op → Dl → Prop) → XQ → Prop
def XL (K : PySem.W.Frag) (B : Bs) (W : WX) (σ : St) (E : XQ) : Prop :=
  ∀ (F' H' : Hp) (δ' : Dl) (C dd : Addr) (f : Str) (v : V) (x : D), RB K B F' H' σ δ' → H' dd = some (.xd [(f, v)]) → B.H dd = none → Rep K F' v x → E C f x δ' → W (.ref C) (some dd) σ H'
def Post (K : PySem.W.Frag) (B : Bs) (σ : St) (δ : Dl) (F H : Hp) (Q : SD → Dl → Prop) (Qh : VK) : Prop :=
  ∀ v F' H' sd δ', RB K B F' H' σ δ' → Stp σ δ δ' F H F' H' → SR K B H F' H' σ δ' v sd → Q sd δ' → Qh v H'
def PostF (K : PySem.W.Frag) (B : Bs) (σ : St) (δ : Dl) (F H : Hp) (Q : D → Dl → Prop) (Qh : VK) : Prop :=
  ∀ v F' H' x δ', RB K B F' H' σ δ' → Stp σ δ δ' F H F' H' → Rep K F' v x → Q x δ' → Qh v H'
def OpV (K : PySem.W.Frag) (F : Hp) (σ : St) (v : V) : Op → Prop
  | .v i => σ[i]? = some (some v)
  | .x d => Rep K F v d
def PostO (K : PySem.W.Frag) (B : Bs) (σ : St) (δ : Dl) (F H : Hp) (Q : Op → Dl → Prop) (Qh : VK) : Prop :=
  ∀ v F' H' x δ', RB K B F' H' σ δ' → Stp σ δ δ' F H F' H' → OpV K F' σ v x → Q x δ' → Qh v H'
structure Fam where
  ι : Type
  X : ι → Cx
  K : PySem.W.Frag
  hK : ∀ i, (X i).K = K
def DE (Φ : Fam) (W : WX) (e : Expr) (w : WE) : Prop :=
  ∃ t, (∀ i, PE (Φ.X i) e t) ∧ ∀ (B : Bs) (F H : Hp) (σ : St) (δ : Dl) (Q : SD → Dl → Prop) (E : XQ) (Qh : VK), RB Φ.K B F H σ δ → w δ Q E → Post Φ.K B σ δ F H Q Qh → XL Φ.K B W σ E → t σ H Qh
def DF (Φ : Fam) (W : WX) (e : Expr) (w : WF) : Prop :=
  ∃ t, (∀ i, PE (Φ.X i) e t) ∧ ∀ (B : Bs) (F H : Hp) (σ : St) (δ : Dl) (Q : D → Dl → Prop) (E : XQ) (Qh : VK), RB Φ.K B F H σ δ → w δ Q E → PostF Φ.K B σ δ F H Q Qh → XL Φ.K B W σ E → t σ H Qh
def DO (Φ : Fam) (W : WX) (e : Expr) (w : WO) : Prop :=
  ∃ t, (∀ i, PE (Φ.X i) e t) ∧ ∀ (B : Bs) (F H : Hp) (σ : St) (δ : Dl) (Q : Op → Dl → Prop) (E : XQ) (Qh : VK), RB Φ.K B F H σ δ → w δ Q E → PostO Φ.K B σ δ F H Q Qh → XL Φ.K B W σ E → t σ H Qh
theorem RB.lay {K : PySem.W.Frag} {B : Bs} {F H : Hp} {σ : St} {δ : Dl} {p : Addr} {ho : HO} (r : RB K B F H σ δ) (hp : H p = none) : RB K B F (upd H p ho) σ δ := by
  have k : Same H (upd H p ho) := fun b o e => by rw [upd_ne (ne_of_none e hp)]; exact e
  have ka : ∀ {a c}, OwnA K F H a c → OwnA K F (upd H p ho) a c := fun {a c} ⟨h1, u, h2, h3⟩ => ⟨h1, u, k _ _ h2, h3⟩
  exact ⟨r.sub.trans k, r.len, r.dat, fun i c e => let ⟨a, h1, h2, h3⟩ := r.own i c e; ⟨a, h1, ka h2, h3⟩, fun i c e => let ⟨a, h1, h2, h3⟩ := r.par i c e; ⟨a, h1, ka h2, h3⟩, r.apt, r.f0,
    fun b o e n => k _ _ (r.h0 b o e n), fun b hb => let ⟨h1, ⟨o, h2, nt⟩, h3⟩ := r.hO b hb; ⟨h1, ⟨o, k _ _ h2, nt⟩, h3⟩, r.nw⟩
theorem RB.hnone {K : PySem.W.Frag} {B : Bs} {F H : Hp} {σ : St} {δ : Dl} {p : Addr} (r : RB K B F H σ δ) (hp : H p = none) : B.H p = none := by
  cases e : B.H p with
  | none => rfl
  | some o =>
    by_cases hb : p ∈ B.O
    · obtain ⟨_, ⟨u, q, _⟩, _⟩ := r.hO p hb
      rw [hp] at q; cases q
    · rw [r.h0 p o e hb] at hp; cases hp
theorem RB.fnone {K : PySem.W.Frag} {B : Bs} {F H : Hp} {σ : St} {δ : Dl} {p : Addr} (r : RB K B F H σ δ) (hp : H p = none) : F p = none := r.sub.free hp
theorem RB.ow {K : PySem.W.Frag} {B : Bs} {F H : Hp} {σ : St} {δ : Dl} {b : Addr} (r : RB K B F H σ δ) (h : Ow σ δ b) : F b = none ∧ ∃ o, H b = some o := by
  obtain ⟨i, ⟨c, e | e⟩, hs⟩ := h
  · obtain ⟨a, h1, ⟨h2, ho, h3, _⟩, _⟩ := r.own i c e
    rw [hs] at h1; cases h1
    exact ⟨h2, ho, h3⟩
  · obtain ⟨a, h1, ⟨h2, ho, h3, _⟩, _⟩ := r.par i c e
    rw [hs] at h1; cases h1
    exact ⟨h2, ho, h3⟩
theorem RB.now {K : PySem.W.Frag} {B : Bs} {F H : Hp} {σ : St} {δ : Dl} {p : Addr} (r : RB K B F H σ δ) (hp : H p = none) : ¬ Ow σ δ p := fun z => by
  obtain ⟨_, o, e⟩ := r.ow z
  rw [hp] at e; cases e
theorem Stp.lay {σ : St} {δ : Dl} {F H : Hp} {p : Addr} {ho : HO} (hp : H p = none) : Stp σ δ δ F H F (upd H p ho) :=
  ⟨.refl _, fun b o e _ => by rw [upd_ne (ne_of_none e hp)]; exact e, fun b o e _ => .inl ⟨o, e⟩, fun _ h => h, fun b o e => ⟨o, by rw [upd_ne (ne_of_none e hp)]; exact e⟩⟩
theorem RB.freeze {K : PySem.W.Frag} {B : Bs} {F H : Hp} {σ : St} {δ : Dl} {p : Addr} {ho : HO} (r : RB K B F H σ δ) (hp : H p = some ho) (hF : F p = none) (hn : ¬ Ow σ δ p) (hb : B.H p = none) : RB K B (upd F p ho) H σ δ := by
  have k : Same F (upd F p ho) := fun b o e => by rw [upd_ne (ne_of_none e hF)]; exact e
  refine ⟨fun b o e => ?_, r.len, fun i x e => let ⟨v, h1, h2⟩ := r.dat i x e; ⟨v, h1, h2.mono k⟩, fun i c e => ?_, fun i c e => ?_, r.apt, r.f0.trans k, r.h0, fun b h => ?_, fun b o e nk => ?_⟩
  · by_cases hb : b = p
    · subst hb; rw [upd_same] at e; cases e; exact hp
    · rw [upd_ne hb] at e; exact r.sub _ _ e
  · obtain ⟨a, h1, ⟨h2, u, h3, h4⟩, h5⟩ := r.own i c e
    have na : a ≠ p := fun z => hn ⟨i, ⟨c, .inl e⟩, by rw [← z]; exact h1⟩
    exact ⟨a, h1, ⟨by rw [upd_ne na]; exact h2, u, h3, h4.mono k⟩, h5⟩
  · obtain ⟨a, h1, ⟨h2, u, h3, h4⟩, h5⟩ := r.par i c e
    have na : a ≠ p := fun z => hn ⟨i, ⟨c, .inr e⟩, by rw [← z]; exact h1⟩
    exact ⟨a, h1, ⟨by rw [upd_ne na]; exact h2, u, h3, h4.mono k⟩, h5⟩
  · obtain ⟨h1, h2, o, h3⟩ := r.hO b h
    have nb : b ≠ p := fun z => by rw [z, hb] at h3; cases h3
    exact ⟨by rw [upd_ne nb]; exact h1, h2, o, h3⟩
  · by_cases hb' : b = p
    · subst hb'; exact .inr hb
    · rw [upd_ne hb'] at e; exact r.nw _ _ e nk
theorem sameOne {F F' : Hp} {b : Addr} {z o : HO} (s : Same F F') (h : F b = some z) (e : F' b = some o) : z = o := by
  have := s b z h
  rw [e] at this
  exact (Option.some.inj this).symm
theorem RB.ktB {K : PySem.W.Frag} {B : Bs} {F H : Hp} {σ : St} {δ : Dl} {b : Addr} {o : HO} (r : RB K B F H σ δ) (h : Kt H b o) (nk : ¬ Kt B.H b o) : B.H b = none := by
  cases e : B.H b with
  | none => rfl
  | some u =>
    by_cases q : b ∈ B.O
    · obtain ⟨_, ⟨v, h2, nt⟩, _⟩ := r.hO b q
      exact absurd (h.at h2) nt
    · have := r.h0 b u e q
      have := h.2.symm.trans this
      cases this
      exact absurd ⟨h.1, e⟩ nk
theorem Cn.rep {K : PySem.W.Frag} {F : Hp} {a : Addr} {ho : HO} {c : Cn} (hF : F a = some ho) (h : CnR K F ho c) : Rep K F (.ref a) c.fz := by
  cases c with
  | l xs => obtain ⟨vs, rfl, h⟩ := h.lst; exact .lst hF h
  | k xs => obtain ⟨vs, rfl, h⟩ := h.dK; exact .dic hF h
  | t xs => obtain ⟨vs, rfl, h⟩ := h.dT; exact .dct hF h
  | ob C xs => obtain ⟨dx, vs, rfl, h'⟩ := h.ob; exact .obj hF h'
theorem Stp.past {F H F' H' : Hp} {σ : St} {δ δ' : Dl} {p : Addr} (s : Stp σ δ δ' F H F' H') (h : H' p = none) : H p = none := by
  cases e : H p with
  | none => rfl
  | some o =>
    obtain ⟨o', q⟩ := s.k p o e
    rw [h] at q; cases q
theorem SR.old {K : PySem.W.Frag} {B : Bs} {H0 H1 F H : Hp} {σ : St} {δ : Dl} {v : V} (h : ∀ p, H1 p = none → H0 p = none) : ∀ {sd : SD}, SR K B H1 F H σ δ v sd → SR K B H0 F H σ δ v sd
  | .d _, r => r
  | .o _, ⟨a, e, r, n, b, z⟩ => ⟨a, e, r, n, b, h a z⟩
  | .p _, r => r.elim
theorem SR.frz {K : PySem.W.Frag} {B : Bs} {F H F' H' : Hp} {σ : St} {δ δ' : Dl} {v : V} {sd : SD} (r : RB K B F' H' σ δ') (s : Stp σ δ δ' F H F' H') (h : SR K B H F' H' σ δ' v sd) :
    ∃ F2, RB K B F2 H' σ δ' ∧ Stp σ δ δ' F H F2 H' ∧ Rep K F2 v sd.fz := by
  cases sd with
  | d x => exact ⟨F', r, s, h⟩
  | p c => exact h.elim
  | o c =>
    obtain ⟨a, rfl, ⟨h1, ho, h2, h3⟩, h4, h5, h6⟩ := h
    have k : Same F' (upd F' a ho) := fun b o e => by rw [upd_ne (ne_of_none e h1)]; exact e
    refine ⟨upd F' a ho, r.freeze h2 h1 h4 h5, ⟨s.f.trans k, s.h, fun b o e nk => ?_, s.o, s.k⟩, Cn.rep upd_same (h3.mono k)⟩
    by_cases hb : b = a
    · subst hb; exact .inr (.inl h6)
    · rw [upd_ne hb] at e
      exact s.n b o e nk
theorem Post.after {K : PySem.W.Frag} {B : Bs} {σ : St} {δ δ1 : Dl} {F H F1 H1 : Hp} {Q : SD → Dl → Prop} {Qh : VK} (p : Post K B σ δ F H Q Qh) (s : Stp σ δ δ1 F H F1 H1) : Post K B σ δ1 F1 H1 Q Qh :=
  fun v F' H' sd δ' r s' sr q => p v F' H' sd δ' r (s.trans s') (sr.old fun _ z => s.past z) q
theorem PostF.after {K : PySem.W.Frag} {B : Bs} {σ : St} {δ δ1 : Dl} {F H F1 H1 : Hp} {Q : D → Dl → Prop} {Qh : VK} (p : PostF K B σ δ F H Q Qh) (s : Stp σ δ δ1 F H F1 H1) : PostF K B σ δ1 F1 H1 Q Qh :=
  fun v F' H' sd δ' r s' sr q => p v F' H' sd δ' r (s.trans s') sr q
theorem PostF.of {K : PySem.W.Frag} {B : Bs} {σ : St} {δ : Dl} {F H : Hp} {Q : D → Dl → Prop} {Qh : VK} (p : PostF K B σ δ F H Q Qh) : Post K B σ δ F H (fun sd δ' => Q sd.fz δ') Qh := fun v F' H' sd δ' r s sr q => by
  obtain ⟨F2, r2, s2, h2⟩ := sr.frz r s
  exact p v F2 H' sd.fz δ' r2 s2 h2 q
section
variable {Φ : Fam} {W : WX} {e a b : Expr}
theorem DE.f {w : WE} (h : DE Φ W e w) : DF Φ W e (fun δ Q E => w δ (fun sd δ' => Q sd.fz δ') E) := by
  obtain ⟨t, h1, h2⟩ := h
  exact ⟨t, h1, fun B F H σ δ Q E Qh r hw p x => h2 B F H σ δ _ E Qh r hw p.of x⟩
theorem DF.o {w : WF} (h : DF Φ W e w) : DO Φ W e (fun δ Q E => w δ (fun x δ' => Q (.x x) δ') E) := by
  obtain ⟨t, h1, h2⟩ := h
  exact ⟨t, h1, fun B F H σ δ Q E Qh r hw p x => h2 B F H σ δ _ E Qh r hw (fun v F' H' d δ' r' s' rep q => p v F' H' (.x d) δ' r' s' rep q) x⟩
theorem DF.s {w : WF} (h : DF Φ W e w) : DE Φ W e (fun δ Q E => w δ (fun x δ' => Q (.d x) δ') E) := by
  obtain ⟨t, h1, h2⟩ := h
  exact ⟨t, h1, fun B F H σ δ Q E Qh r hw p x => h2 B F H σ δ _ E Qh r hw (fun v F' H' d δ' r' s' rep q => p v F' H' (.d d) δ' r' s' rep q) x⟩
end
theorem Rep.strip {K : PySem.W.Frag} {F : Hp} {v : V} : ∀ {d : D}, Rep K F v d → Rep K F v d.strip
  | .at _ x, h => by
    cases h with
    | «at» h => exact Rep.strip (d := x) h
  | .non, h | .bl _, h | .int _, h | .str _, h | .lst _, h | .tup _, h | .dic _, h | .dct _, h | .obj _ _, h | .scr _, h | .vv _, h | .exc _ _ _ _ _, h | .err _ _ _, h => h
def view (δ : Dl) : Op → Option D
  | .x d => some d.strip
  | .v i => match δ[i]? with
    | some (some sd) => some sd.fz.strip
    | _ => none
def PR (K : PySem.W.Frag) (F H : Hp) (v : V) (d : D) : Prop := Rep K F v d ∨ ∃ a c, v = .ref a ∧ d = c.fz ∧ OwnA K F H a c
theorem RB.view {K : PySem.W.Frag} {B : Bs} {F H : Hp} {σ : St} {δ : Dl} {v : V} {d : D} (r : RB K B F H σ δ) : ∀ {o : Op}, OpV K F σ v o → view δ o = some d → PR K F H v d
  | .x _, h, e => by cases e; exact .inl (Rep.strip h)
  | .v i, h, e => by
    unfold DL.view at e
    simp only at e
    split at e
    · rename_i sd q
      cases e
      have h' : σ[i]? = some (some v) := h
      cases sd with
      | d x => obtain ⟨u, e1, e2⟩ := r.dat i x q; rw [h'] at e1; cases e1; exact .inl e2.strip
      | o c => obtain ⟨u, e1, e2, _⟩ := r.own i c q; rw [h'] at e1; cases e1; exact .inr ⟨u, c, rfl, (by cases c <;> rfl), e2⟩
      | p c => obtain ⟨u, e1, e2, _⟩ := r.par i c q; rw [h'] at e1; cases e1; exact .inr ⟨u, c, rfl, (by cases c <;> rfl), e2⟩
    · cases e
theorem OpV.step {K : PySem.W.Frag} {F F' : Hp} {σ : St} {v : V} (s : Same F F') : ∀ {o : Op}, OpV K F σ v o → OpV K F' σ v o
  | .x _, h => Rep.mono s h
  | .v _, h => h
section
variable {K : PySem.W.Frag} {F H : Hp} {v : V}
theorem PR.int {i : Int} (h : PR K F H v (.int i)) : v = .int i := by
  rcases h with h | ⟨a, c, _, e, _⟩
  · cases h; rfl
  · cases c <;> cases e
theorem PR.bl {i : Bool} (h : PR K F H v (.bl i)) : v = .bl i := by
  rcases h with h | ⟨a, c, _, e, _⟩
  · cases h; rfl
  · cases c <;> cases e
theorem PR.str {i : Str} (h : PR K F H v (.str i)) : v = .str i := by
  rcases h with h | ⟨a, c, _, e, _⟩
  · cases h; rfl
  · cases c <;> cases e
theorem PR.non (h : PR K F H v .non) : v = .non := by
  rcases h with h | ⟨a, c, _, e, _⟩
  · cases h; rfl
  · cases c <;> cases e
theorem PR.lst {xs : List D} (s : Same F H) (h : PR K F H v (.lst xs)) : ∃ a vs, v = .ref a ∧ H a = some (.lst vs) ∧ RepL K F vs xs := by
  rcases h with h | ⟨a, c, rfl, e, h⟩
  · cases h with
    | lst h1 h2 => exact ⟨_, _, rfl, s _ _ h1, h2⟩
  · cases c with
    | l ys =>
      cases e
      obtain ⟨_, ho, h2, h3⟩ := h
      obtain ⟨vs, rfl, h4⟩ := h3.lst
      exact ⟨a, vs, rfl, h2, h4⟩
    | k ys => cases e
    | t ys => cases e
    | ob C ys => cases e
theorem PR.scr {xs : List Int} (s : Same F H) (h : PR K F H v (.scr xs)) : ∃ a, v = .ref a ∧ SqL K H a (xs.map V.int) := by
  rcases h with h | ⟨a, c, rfl, e, h⟩
  · cases h with
    | scr _ h1 => exact ⟨_, rfl, s.seq h1⟩
  · cases c <;> cases e
theorem PR.tup {xs : List D} (s : Same F H) (h : PR K F H v (.tup xs)) : ∃ a vs, v = .ref a ∧ H a = some (.tup vs) ∧ RepL K F vs xs := by
  rcases h with h | ⟨a, c, rfl, e, h⟩
  · cases h with
    | tup h1 h2 => exact ⟨_, _, rfl, s _ _ h1, h2⟩
  · cases c <;> cases e
theorem PR.dic {xs : List (Key × D)} (s : Same F H) (h : PR K F H v (.dic xs)) : ∃ a vs, v = .ref a ∧ H a = some (.dK vs) ∧ RepK K F vs xs := by
  rcases h with h | ⟨a, c, rfl, e, h⟩
  · cases h with
    | dic h1 h2 => exact ⟨_, _, rfl, s _ _ h1, h2⟩
  · cases c with
    | k ys =>
      cases e
      obtain ⟨_, ho, h2, h3⟩ := h
      obtain ⟨vs, rfl, h4⟩ := h3.dK
      exact ⟨a, vs, rfl, h2, h4⟩
    | l ys => cases e
    | t ys => cases e
    | ob C ys => cases e
theorem PR.obj {C : Addr} {xs : List (Str × D)} (s : Same F H) (h : PR K F H v (.obj C xs)) : ∃ a dx vs, v = .ref a ∧ H a = some (.ins C dx vs) ∧ RepF K F vs xs := by
  rcases h with h | ⟨a, c, rfl, e, h⟩
  · cases h with
    | obj h1 h2 => exact ⟨_, _, _, rfl, s _ _ h1, h2⟩
  · cases c with
    | ob C' ys =>
      cases e
      obtain ⟨_, ho, h2, h3⟩ := h
      obtain ⟨dx, vs, rfl, h4⟩ := h3.ob
      exact ⟨a, dx, vs, rfl, h2, h4⟩
    | l ys => cases e
    | k ys => cases e
    | t ys => cases e
theorem RepF.lookup {K : PySem.W.Frag} {F : Hp} {f : Str} : ∀ {vs : List (Str × V)} {ds : List (Str × D)} {d : D}, RepF K F vs ds → ds.lookup f = some d → ∃ v, vs.lookup f = some v ∧ Rep K F v d
  | _, _, _, .nil, e => by cases e
  | _, _, _, .cons (k := k) h r, e => by
    simp only [List.lookup] at e ⊢
    cases q : f == k with
    | true => rw [q] at e; cases e; exact ⟨_, rfl, h⟩
    | false => rw [q] at e; exact RepF.lookup r e
theorem RepF.len {K : PySem.W.Frag} {F : Hp} : ∀ {vs : List (Str × V)} {ds : List (Str × D)}, RepF K F vs ds → vs.length = ds.length
  | _, _, .nil => rfl
  | _, _, .cons _ r => congrArg (· + 1) (RepF.len r)
end
end DL
namespace DL
open PySem L2
section
variable {Φ : Fam} {W : WX} {a b e : Expr} {pos : Pos}
def wVar (i : Nat) : WF := fun δ Q _ => match δ[i]? with
  | some (some (.d x)) => Q x δ
  | some (some (.o c)) => Q c.fz (δ.set i (some (.d c.fz)))
  | _ => False
def oVar (i : Nat) : WO := fun δ Q _ => match δ[i]? with
  | some (some _) => Q (.v i) δ
  | _ => False
theorem ow_set {σ : St} {δ : Dl} {i : Nat} {x : D} {b : Addr} (h : Ow σ (δ.set i (some (.d x))) b) : Ow σ δ b ∧ ∀ a, σ[i]? = some (some (.ref a)) → i < δ.length → True := by
  obtain ⟨j, ⟨c, e⟩, hs⟩ := h
  refine ⟨⟨j, ⟨c, ?_⟩, hs⟩, fun _ _ _ => trivial⟩
  by_cases q : i = j
  · subst q
    by_cases l : i < δ.length
    · rw [List.getElem?_set_self l] at e
      rcases e with e | e <;> cases e
    · rw [List.getElem?_set] at e
      simp [l] at e
  · rwa [List.getElem?_set_ne q] at e
theorem RB.frzSlot {K : PySem.W.Frag} {B : Bs} {F H : Hp} {σ : St} {δ : Dl} {i : Nat} {c : Cn} (r : RB K B F H σ δ) (h : δ[i]? = some (some (.o c))) :
    ∃ a F', σ[i]? = some (some (.ref a)) ∧ RB K B F' H σ (δ.set i (some (.d c.fz))) ∧ Stp σ δ (δ.set i (some (.d c.fz))) F H F' H ∧ Rep K F' (.ref a) c.fz := by
  obtain ⟨a, hs, ⟨h1, ho, h2, h3⟩, h4⟩ := r.own i c h
  have hi : i < δ.length := (List.getElem?_eq_some_iff.mp h).1
  have k : Same F (upd F a ho) := fun b o e => by rw [upd_ne (ne_of_none e h1)]; exact e
  have oi : Ow σ δ a := ⟨i, ⟨c, .inl h⟩, hs⟩
  have oth : ∀ j c', (δ.set i (some (.d c.fz)))[j]? = some (some (.o c')) ∨ (δ.set i (some (.d c.fz)))[j]? = some (some (.p c')) → i ≠ j ∧ (δ[j]? = some (some (.o c')) ∨ δ[j]? = some (some (.p c'))) := fun j c' e => by
    by_cases q : i = j
    · subst q
      rw [List.getElem?_set_self hi] at e
      rcases e with e | e <;> cases e
    · rw [List.getElem?_set_ne q] at e
      exact ⟨q, e⟩
  have nea : ∀ j c' b, i ≠ j → (δ[j]? = some (some (.o c')) ∨ δ[j]? = some (some (.p c'))) → σ[j]? = some (some (.ref b)) → b ≠ a := fun j c' b q e hb z => by
    subst z
    exact q (r.apt i j b ⟨c, .inl h⟩ ⟨c', e⟩ hs hb)
  have rep := Cn.rep (a := a) (upd_same (H := F) (o := ho)) (h3.mono k)
  refine ⟨a, upd F a ho, hs, ⟨fun b o e => ?_, by rw [List.length_set]; exact r.len, fun j x e => ?_, fun j c' e => ?_, fun j c' e => ?_, fun j l b h5 h6 h7 h8 => ?_, r.f0.trans k, r.h0, fun b hb => ?_, fun b o e nk => ?_⟩, ⟨k, fun _ _ e _ => e, fun b o e nk => ?_, fun b z => (ow_set z).1, fun _ o e => ⟨o, e⟩⟩, rep⟩
  · by_cases q : b = a
    · subst q; rw [upd_same] at e; cases e; exact h2
    · rw [upd_ne q] at e; exact r.sub _ _ e
  · by_cases q : i = j
    · subst q
      rw [List.getElem?_set_self hi] at e
      cases e
      exact ⟨_, hs, rep⟩
    · rw [List.getElem?_set_ne q] at e
      obtain ⟨v, e1, e2⟩ := r.dat j x e
      exact ⟨v, e1, e2.mono k⟩
  · obtain ⟨q, e'⟩ := oth j c' (.inl e)
    rw [List.getElem?_set_ne q] at e
    obtain ⟨b, h5, ⟨h6, u, h7, h8⟩, h9⟩ := r.own j c' e
    exact ⟨b, h5, ⟨by rw [upd_ne (nea j c' b q e' h5)]; exact h6, u, h7, h8.mono k⟩, h9⟩
  · obtain ⟨q, e'⟩ := oth j c' (.inr e)
    rw [List.getElem?_set_ne q] at e
    obtain ⟨b, h5, ⟨h6, u, h7, h8⟩, h9⟩ := r.par j c' e
    exact ⟨b, h5, ⟨by rw [upd_ne (nea j c' b q e' h5)]; exact h6, u, h7, h8.mono k⟩, h9⟩
  · obtain ⟨c1, e1⟩ := h5
    obtain ⟨c2, e2⟩ := h6
    exact r.apt j l b ⟨c1, (oth j c1 e1).2⟩ ⟨c2, (oth l c2 e2).2⟩ h7 h8
  · obtain ⟨h5, h6, o, h7⟩ := r.hO b hb
    have q : b ≠ a := fun z => by rw [z, h4] at h7; cases h7
    exact ⟨by rw [upd_ne q]; exact h5, h6, o, h7⟩
  · by_cases q : b = a
    · subst q; exact .inr h4
    · rw [upd_ne q] at e; exact r.nw _ _ e nk
  · by_cases q : b = a
    · subst q; exact .inr (.inr oi)
    · rw [upd_ne q] at e; exact .inl ⟨o, e⟩
theorem dv (i : Nat) {x : Str} (hN : ∀ j, (Φ.X j).N[i]? = some x := by intro _; rfl) (hv : ∀ j, Vis (Φ.X j).env.scope x := by intro _; first | exact Or.inl rfl | exact Or.inr (Or.inl rfl) | exact Or.inr (Or.inr rfl)) (hd : (x == ("__debug__" : Str)) = false := by decide)
    (hcd : (x == ("__classdict__" : Str)) = false := by decide) : DF Φ W (.Name x pos) (wVar i) := by
  refine ⟨tVar i, fun j => pe_var (hN j) (hv j) hd hcd, fun B F H σ δ Q E Qh r h p _ => ?_⟩
  unfold wVar at h
  split at h
  · rename_i x e
    obtain ⟨v, e1, e2⟩ := r.dat i x e
    exact ⟨v, e1, p v F H x δ r .refl e2 h⟩
  · rename_i c e
    obtain ⟨a, F', hs, r', s', rep⟩ := r.frzSlot e
    exact ⟨_, hs, p _ F' H _ _ r' s' rep h⟩
  · exact h.elim
theorem ov (i : Nat) {x : Str} (hN : ∀ j, (Φ.X j).N[i]? = some x := by intro _; rfl) (hv : ∀ j, Vis (Φ.X j).env.scope x := by intro _; first | exact Or.inl rfl | exact Or.inr (Or.inl rfl) | exact Or.inr (Or.inr rfl)) (hd : (x == ("__debug__" : Str)) = false := by decide)
    (hcd : (x == ("__classdict__" : Str)) = false := by decide) : DO Φ W (.Name x pos) (oVar i) := by
  refine ⟨tVar i, fun j => pe_var (hN j) (hv j) hd hcd, fun B F H σ δ Q E Qh r h p _ => ?_⟩
  unfold oVar at h
  split at h
  · rename_i sd e
    have : ∃ v, σ[i]? = some (some v) := by
      cases sd with
      | d x => obtain ⟨v, e1, _⟩ := r.dat i x e; exact ⟨v, e1⟩
      | o c => obtain ⟨v, e1, _⟩ := r.own i c e; exact ⟨_, e1⟩
      | p c => obtain ⟨v, e1, _⟩ := r.par i c e; exact ⟨_, e1⟩
    obtain ⟨v, e1⟩ := this
    exact ⟨v, e1, p v F H (.v i) δ r .refl e1 h⟩
  · exact h.elim
def wC (d : D) : WF := fun δ Q _ => Q d δ
theorem df_c {e : Expr} {v : V} {d : D} (h : ∀ i, PE (Φ.X i) e (tC v)) (r : ∀ K F, Rep K F v d) : DF Φ W e (wC d) := ⟨_, h, fun B F H σ δ Q E Qh rb hw p _ => p v F H d δ rb .refl (r _ _) hw⟩
theorem d_int {i j pos} : DF Φ W (.Constant (.int i) j pos) (wC (.int i)) := df_c (fun _ => pe_int) fun _ _ => .int i
theorem d_bl {i j pos} : DF Φ W (.Constant (.bool i) j pos) (wC (.bl i)) := df_c (fun _ => pe_bl) fun _ _ => .bl i
theorem d_non {j pos} : DF Φ W (.Constant .none j pos) (wC .non) := df_c (fun _ => pe_non) fun _ _ => .non
theorem d_str {i j pos} : DF Φ W (.Constant (.str i) j pos) (wC (.str i)) := df_c (fun _ => pe_str) fun _ _ => .str i
abbrev S2 := D → D → (SD → Prop) → Prop
def BinD (Φ : Fam) (f : Value → Value → Sem Value) (s : S2) : Prop :=
  ∃ r, (∀ i, OpR (Φ.X i) f r) ∧ ∀ (B : Bs) (F H : Hp) (σ : St) (δ : Dl) (x y : D) (v u : V) (Q : SD → Dl → Prop) (Qh : VK), RB Φ.K B F H σ δ → PR Φ.K F H v x → PR Φ.K F H u y → s x y (fun sd => Q sd δ) → Post Φ.K B σ δ F H Q Qh → r v u H Qh
def wBin (s : S2) (wa wb : WO) : WE := fun δ Q E => wa δ (fun o δ1 => wb δ1 (fun o' δ2 => match view δ2 o, view δ2 o' with
  | some x, some y => s x y (fun sd => Q sd δ2)
  | _, _ => False) E) E
theorem bin_run {s : S2} {wa wb : WO} {r : R2} {ta tb : TE} (hr : ∀ (B : Bs) (F H : Hp) (σ : St) (δ : Dl) (x y : D) (v u : V) (Q : SD → Dl → Prop) (Qh : VK), RB Φ.K B F H σ δ → PR Φ.K F H v x → PR Φ.K F H u y → s x y (fun sd => Q sd δ) → Post Φ.K B σ δ F H Q Qh → r v u H Qh)
    (ha : ∀ (B : Bs) (F H : Hp) (σ : St) (δ : Dl) (Q : Op → Dl → Prop) (E : XQ) (Qh : VK), RB Φ.K B F H σ δ → wa δ Q E → PostO Φ.K B σ δ F H Q Qh → XL Φ.K B W σ E → ta σ H Qh)
    (hb : ∀ (B : Bs) (F H : Hp) (σ : St) (δ : Dl) (Q : Op → Dl → Prop) (E : XQ) (Qh : VK), RB Φ.K B F H σ δ → wb δ Q E → PostO Φ.K B σ δ F H Q Qh → XL Φ.K B W σ E → tb σ H Qh) :
    ∀ (B : Bs) (F H : Hp) (σ : St) (δ : Dl) (Q : SD → Dl → Prop) (E : XQ) (Qh : VK), RB Φ.K B F H σ δ → wBin s wa wb δ Q E → Post Φ.K B σ δ F H Q Qh → XL Φ.K B W σ E → tOp r ta tb σ H Qh := by
  intro B F H σ δ Q E Qh rb hw p xl
  refine ha B F H σ δ _ E _ rb hw (fun v F1 H1 o1 δ1 r1 s1 v1 q1 => ?_) xl
  refine hb B F1 H1 σ δ1 _ E _ r1 q1 (fun u F2 H2 o2 δ2 r2 s2 v2 q2 => ?_) xl
  split at q2
  · rename_i x y e1 e2
    exact hr B F2 H2 σ δ2 x y v u Q Qh r2 (r2.view (v1.step s2.f) e1) (r2.view v2 e2) q2 (p.after (s1.trans s2))
  · exact q2.elim
theorem de_bin {op : Operator} {s : S2} {wa wb : WO} (ho : BinD Φ (binaryOp op) s) (ha : DO Φ W a wa) (hb : DO Φ W b wb) : DE Φ W (.BinOp a op b pos) (wBin s wa wb) := by
  obtain ⟨r, o1, o2⟩ := ho
  obtain ⟨ta, a1, a2⟩ := ha
  obtain ⟨tb, b1, b2⟩ := hb
  exact ⟨_, fun i => pe_op (o1 i) (a1 i) (b1 i), bin_run o2 a2 b2⟩
theorem de_cmp {op : CmpOp} {s : S2} {wa wb : WO} (ho : BinD Φ (compareOp op) s) (ha : DO Φ W a wa) (hb : DO Φ W b wb) (hm : behindInMarks op b = false) : DE Φ W (.Compare a [op] [b] pos) (wBin s wa wb) := by
  obtain ⟨r, o1, o2⟩ := ho
  obtain ⟨ta, a1, a2⟩ := ha
  obtain ⟨tb, b1, b2⟩ := hb
  exact ⟨_, fun i => pe_cmpR (o1 i) (a1 i) (b1 i) hm, bin_run o2 a2 b2⟩
theorem de_ix {s : S2} {wa wb : WO} (ho : ∃ r, (∀ i, IxR (Φ.X i) r) ∧ ∀ (B : Bs) (F H : Hp) (σ : St) (δ : Dl) (x y : D) (v u : V) (Q : SD → Dl → Prop) (Qh : VK), RB Φ.K B F H σ δ → PR Φ.K F H v x → PR Φ.K F H u y → s x y (fun sd => Q sd δ) → Post Φ.K B σ δ F H Q Qh → r v u H Qh)
    (ha : DO Φ W a wa) (hb : DO Φ W b wb) (hs : PlainIx b) : DE Φ W (.Subscript a b pos) (wBin s wa wb) := by
  obtain ⟨r, o1, o2⟩ := ho
  obtain ⟨ta, a1, a2⟩ := ha
  obtain ⟨tb, b1, b2⟩ := hb
  exact ⟨_, fun i => pe_ix (o1 i) (a1 i) (b1 i) hs, bin_run o2 a2 b2⟩
theorem Post.dat {K : PySem.W.Frag} {B : Bs} {σ : St} {δ : Dl} {F H : Hp} {Q : SD → Dl → Prop} {Qh : VK} {v : V} {x : D} (p : Post K B σ δ F H Q Qh) (r : RB K B F H σ δ) (h : Rep K F v x) (q : Q (.d x) δ) : Qh v H := p v F H (.d x) δ r .refl h q
theorem Post.lst {K : PySem.W.Frag} {B : Bs} {σ : St} {δ : Dl} {F H : Hp} {Q : SD → Dl → Prop} {Qh : VK} {vs : List V} {xs : List D} (p : Post K B σ δ F H Q Qh) (r : RB K B F H σ δ) (h : RepL K F vs xs) (q : Q (.o (.l xs)) δ) :
    ∀ a, H a = none → Qh (.ref a) (upd H a (.lst vs)) := fun a ha => p _ F _ (.o (.l xs)) δ (r.lay ha) (.lay ha) ⟨a, rfl, ⟨r.fnone ha, _, upd_same, h⟩, r.now ha, r.hnone ha, ha⟩ q
theorem Post.tup {K : PySem.W.Frag} {B : Bs} {σ : St} {δ : Dl} {F H : Hp} {Q : SD → Dl → Prop} {Qh : VK} {vs : List V} {xs : List D} (p : Post K B σ δ F H Q Qh) (r : RB K B F H σ δ) (h : RepL K F vs xs) (q : Q (.d (.tup xs)) δ) :
    ∀ a, H a = none → Qh (.ref a) (upd H a (.tup vs)) := fun a ha => by
  have k : Same F (upd F a (.tup vs)) := fun b o e => by rw [upd_ne (ne_of_none e (r.fnone ha))]; exact e
  refine p _ (upd F a (.tup vs)) _ (.d (.tup xs)) δ ((r.lay ha).freeze upd_same (r.fnone ha) (r.now ha) (r.hnone ha)) ⟨k, (Stp.lay (F := F) ha).h, fun b o e nk => ?_, fun _ z => z, (Stp.lay (F := F) (σ := σ) (δ := δ) ha).k⟩ (.tup upd_same (h.mono k)) q
  by_cases hb : b = a
  · subst hb; exact .inr (.inl ha)
  · rw [upd_ne hb] at e; exact .inl ⟨o, e⟩
end
end DL
namespace DL
open PySem L2
mutual
def toP : D → Option PyData
  | .non => some .none
  | .bl b => some (.bool b)
  | .int i => some (.int i)
  | .str x => some (.str x)
  | .lst xs => match toPs xs with
    | some ps => some (.list ps)
    | none => none
  | .tup xs => match toPs xs with
    | some ps => some (.tuple ps)
    | none => none
  | _ => none
def toPs : List D → Option (List PyData)
  | [] => some []
  | x :: xs => match toP x, toPs xs with
    | some p, some ps => some (p :: ps)
    | _, _ => none
end
section
variable {K : PySem.W.Frag} {F H : Hp}
mutual
theorem toP_plain : ∀ {d : D} {p : PyData}, toP d = some p → p.plain = true
  | .non, _, h => by simp only [toP] at h; cases h; rfl
  | .bl b, _, h => by simp only [toP] at h; cases h; rfl
  | .int i, _, h => by simp only [toP] at h; cases h; rfl
  | .str x, _, h => by simp only [toP] at h; cases h; rfl
  | .lst xs, _, h => by
    simp only [toP] at h
    split at h
    · rename_i ps e
      cases h
      simp only [PyData.plain]
      exact toPs_plain e
    · cases h
  | .tup xs, _, h => by
    simp only [toP] at h
    split at h
    · rename_i ps e
      cases h
      simp only [PyData.plain]
      exact toPs_plain e
    · cases h
  | .dic _, _, h => by simp only [toP] at h; cases h
  | .dct _, _, h => by simp only [toP] at h; cases h
  | .obj _ _, _, h => by simp only [toP] at h; cases h
  | .scr _, _, h => by simp only [toP] at h; cases h
  | .vv _, _, h => by simp only [toP] at h; cases h
theorem toPs_plain : ∀ {ds : List D} {ps : List PyData}, toPs ds = some ps → PyData.plainAll ps = true
  | [], _, h => by simp only [toPs] at h; cases h; rfl
  | d :: ds, _, h => by
    simp only [toPs] at h
    split at h
    · rename_i p ps e1 e2
      cases h
      simp only [PyData.plainAll, toP_plain e1, toPs_plain e2, Bool.and_self]
    · cases h
end
mutual
theorem Rep.dp (s : Same F H) : ∀ {d : D} {v : V} {p : PyData}, Rep K F v d → toP d = some p → Dp K H v p
  | .non, _, _, r, h => by simp only [toP] at h; cases h; cases r; exact .non
  | .bl b, _, _, r, h => by simp only [toP] at h; cases h; cases r; exact .bl _
  | .int i, _, _, r, h => by simp only [toP] at h; cases h; cases r; exact .int _
  | .str x, _, _, r, h => by simp only [toP] at h; cases h; cases r; exact .str _
  | .lst xs, _, _, r, h => by
    simp only [toP] at h
    split at h
    · rename_i ps e
      cases h
      cases r with
      | lst h1 h2 => exact .lst (.inl (.inl (s _ _ h1))) (RepL.dp s h2 e)
    · cases h
  | .tup xs, _, _, r, h => by
    simp only [toP] at h
    split at h
    · rename_i ps e
      cases h
      cases r with
      | tup h1 h2 => exact .tup (.inl (.inl (s _ _ h1))) (RepL.dp s h2 e)
    · cases h
  | .dic _, _, _, _, h => by simp only [toP] at h; cases h
  | .dct _, _, _, _, h => by simp only [toP] at h; cases h
  | .obj _ _, _, _, _, h => by simp only [toP] at h; cases h
  | .scr _, _, _, _, h => by simp only [toP] at h; cases h
  | .vv _, _, _, _, h => by simp only [toP] at h; cases h
theorem RepL.dp (s : Same F H) : ∀ {ds : List D} {vs : List V} {ps : List PyData}, RepL K F vs ds → toPs ds = some ps → DpAll K H vs ps
  | [], _, _, r, h => by simp only [toPs] at h; cases h; cases r; exact .nil
  | d :: ds, _, _, r, h => by
    simp only [toPs] at h
    split at h
    · rename_i p ps e1 e2
      cases h
      cases r with
      | cons h1 h2 => exact .cons (Rep.dp s h1 e1) (RepL.dp s h2 e2)
    · cases h
end
theorem PR.dp (s : Same F H) {d : D} {v : V} {p : PyData} (r : PR K F H v d) (h : toP d = some p) : Dp K H v p := by
  rcases r with r | ⟨a, c, rfl, rfl, _, ho, h2, h3⟩
  · exact r.dp s h
  · cases c with
    | l xs =>
      obtain ⟨vs, rfl, h4⟩ := h3.lst
      simp only [Cn.fz, toP] at h
      split at h
      · rename_i ps e
        cases h
        exact .lst (.inl (.inl h2)) (h4.dp s e)
      · cases h
    | k xs => simp only [Cn.fz, toP] at h; cases h
    | t xs => simp only [Cn.fz, toP] at h; cases h
    | ob C xs => simp only [Cn.fz, toP] at h; cases h
end
def deq (x y : D) : Bool := match toP x, toP y with
  | some p, some q => PyData.eqv p q
  | _, _ => false
def eqOk (x : D) : Bool := match toP x with
  | some p => decide (p.depth ≤ 40)
  | none => false
theorem eqOk_some {x : D} (h : eqOk x = true) : ∃ p, toP x = some p ∧ p.depth ≤ 40 := by
  unfold eqOk at h
  split at h
  · rename_i p e
    exact ⟨p, e, of_decide_eq_true h⟩
  · cases h
section
variable {X : Cx} {Φ : Fam}
def rEqP (K : PySem.W.Frag) (neg : Bool) : R2 := fun x y H Q => ∃ d e, Dp K H x d ∧ Dp K H y e ∧ d.plain = true ∧ e.plain = true ∧ d.depth ≤ 40 ∧ Q (.bl (if neg then !PyData.eqv d e else PyData.eqv d e)) H
theorem op_eqP (hu : X.A.units + 64 < cLine) : OpR X (compareOp .Eq) (rEqP X.K false) := by
  intro pins s σ H x y v u Q I rx ry h
  obtain ⟨d, e, hd, he, sd, se, hdp, q⟩ := h
  obtain ⟨as, r1⟩ := Dp.reads I d x v hd rx
  obtain ⟨bs, r2⟩ := Dp.reads I e y u he ry
  exact PySem.SeqAt.eq_plain r1 r2 sd se (by have := Nat.min_le_left d.depth e.depth; omega) ⟨.bl _, H, I, rfl, q⟩
theorem op_neP (hu : X.A.units + 64 < cLine) : OpR X (compareOp .NotEq) (rEqP X.K true) := by
  intro pins s σ H x y v u Q I rx ry h
  obtain ⟨d, e, hd, he, sd, se, hdp, q⟩ := h
  obtain ⟨as, r1⟩ := Dp.reads I d x v hd rx
  obtain ⟨bs, r2⟩ := Dp.reads I e y u he ry
  exact PySem.SeqAt.ne_plain r1 r2 sd se (by have := Nat.min_le_left d.depth e.depth; omega) ⟨.bl _, H, I, rfl, q⟩
def sEq (neg : Bool) : S2 := fun x y Q => eqOk x = true ∧ eqOk y = true ∧ Q (.d (.bl (if neg then !deq x y else deq x y)))
theorem deq_of {x y : D} {p q : PyData} (h : toP x = some p) (h' : toP y = some q) : deq x y = PyData.eqv p q := by unfold deq; rw [h, h']
def dmem (x : D) (ys : List D) : Bool := ys.any fun y => deq y x
def sIn (neg : Bool) : S2 := fun x y Q => match y with
  | .lst ys => eqOk x = true ∧ (toPs ys).isSome = true ∧ Q (.d (.bl (if neg then !dmem x ys else dmem x ys)))
  | .tup ys => eqOk x = true ∧ (toPs ys).isSome = true ∧ Q (.d (.bl (if neg then !dmem x ys else dmem x ys)))
  | .str z => match x with
    | .str i => Q (.d (.bl (if neg then !(!(Builtin.Str.occurrences z i 0 z.length 1).isEmpty) else !(Builtin.Str.occurrences z i 0 z.length 1).isEmpty)))
    | _ => False
  | _ => False
def sAdd : S2 := fun x y Q => match x, y with
  | .int i, .int j => Q (.d (.int (i + j)))
  | .str i, .str j => i.length + j.length ≤ sizeLine ∧ Q (.d (.str (i ++ j)))
  | .lst xs, .lst ys => xs.length + ys.length ≤ sizeLine ∧ Q (.o (.l (xs ++ ys)))
  | _, _ => False
theorem bin_add : BinD Φ (binaryOp .Add) sAdd := by
  refine ⟨_, fun i => op_add.or (op_add_str.or op_cat), fun B F H σ δ x y v u Q Qh r hx hy hs p => ?_⟩
  unfold sAdd at hs
  split at hs
  · obtain rfl := hx.int; obtain rfl := hy.int
    exact .inl ⟨_, _, rfl, rfl, p.dat r (.int _) hs⟩
  · obtain rfl := hx.str; obtain rfl := hy.str
    exact .inr (.inl ⟨_, _, rfl, rfl, hs.1, p.dat r (.str _) hs.2⟩)
  · obtain ⟨a, vs, rfl, h1, h2⟩ := hx.lst r.sub
    obtain ⟨b, us, rfl, h3, h4⟩ := hy.lst r.sub
    exact .inr (.inr ⟨_, _, _, _, rfl, rfl, h1, h3, by rw [h2.len, h4.len]; exact hs.1, p.lst r (h2.app h4) hs.2⟩)
  · exact hs.elim
def sInt (C : Int → Int → Prop) (g : Int → Int → D) : S2 := fun x y Q => match x, y with
  | .int i, .int j => C i j ∧ Q (.d (g i j))
  | _, _ => False
theorem bin_int {f : Value → Value → Sem Value} {C : Int → Int → Prop} {g : Int → Int → Int} (h : ∀ i, OpR (Φ.X i) f (rI C fun i j => .int (g i j))) : BinD Φ f (sInt C fun i j => .int (g i j)) := by
  refine ⟨_, h, fun B F H σ δ x y v u Q Qh r hx hy hs p => ?_⟩
  unfold sInt at hs
  split at hs
  · obtain rfl := hx.int; obtain rfl := hy.int
    exact ⟨_, _, rfl, rfl, hs.1, p.dat r (.int _) hs.2⟩
  · exact hs.elim
def sInt0 (g : Int → Int → D) : S2 := fun x y Q => match x, y with
  | .int i, .int j => Q (.d (g i j))
  | _, _ => False
theorem bin_int0 {f : Value → Value → Sem Value} {g : Int → Int → Int} (h : ∀ i, OpR (Φ.X i) f (rI0 fun i j => .int (g i j))) : BinD Φ f (sInt0 fun i j => .int (g i j)) := by
  refine ⟨_, h, fun B F H σ δ x y v u Q Qh r hx hy hs p => ?_⟩
  unfold sInt0 at hs
  split at hs
  · obtain rfl := hx.int; obtain rfl := hy.int
    exact ⟨_, _, rfl, rfl, p.dat r (.int _) hs⟩
  · exact hs.elim
theorem bin_cmp0 {f : Value → Value → Sem Value} {g : Int → Int → Bool} (h : ∀ i, OpR (Φ.X i) f (rI0 fun i j => .bl (g i j))) : BinD Φ f (sInt0 fun i j => .bl (g i j)) := by
  refine ⟨_, h, fun B F H σ δ x y v u Q Qh r hx hy hs p => ?_⟩
  unfold sInt0 at hs
  split at hs
  · obtain rfl := hx.int; obtain rfl := hy.int
    exact ⟨_, _, rfl, rfl, p.dat r (.bl _) hs⟩
  · exact hs.elim
abbrev sSub : S2 := sInt0 fun i j => .int (i - j)
abbrev sMul : S2 := sInt CMulW fun i j => .int (i * j)
abbrev sMod : S2 := sInt (fun _ j => 0 < j) fun i j => .int (i % j)
abbrev sDiv : S2 := sInt CDivW fun i j => .int (i / j)
abbrev sPow : S2 := sInt CPow fun i j => .int (i ^ j.toNat)
abbrev sLt : S2 := sInt0 fun i j => .bl (decide (i < j))
abbrev sGe : S2 := sInt0 fun i j => .bl (decide (j ≤ i))
theorem bin_sub : BinD Φ (binaryOp .Sub) sSub := bin_int0 fun _ => op_sub
theorem bin_mul : BinD Φ (binaryOp .Mult) sMul := bin_int fun _ => op_mulW
theorem bin_mod : BinD Φ (binaryOp .Mod) sMod := bin_int fun _ => op_mod
theorem bin_div : BinD Φ (binaryOp .FloorDiv) sDiv := bin_int fun _ => op_fdivW
theorem bin_pow : BinD Φ (binaryOp .Pow) sPow := bin_int fun _ => op_pow
theorem bin_lt : BinD Φ (compareOp .Lt) sLt := bin_cmp0 fun _ => op_lt
theorem bin_ge : BinD Φ (compareOp .GtE) sGe := bin_cmp0 fun _ => op_ge
end
end DL
namespace DL
open PySem L2
abbrev WT := Dl → (Bool → Dl → Prop) → XQ → Prop
def PostT (K : PySem.W.Frag) (B : Bs) (σ : St) (δ : Dl) (F H : Hp) (Q : Bool → Dl → Prop) (Qh : Bool → Hp → Prop) : Prop :=
  ∀ b F' H' δ', RB K B F' H' σ δ' → Stp σ δ δ' F H F' H' → Q b δ' → Qh b H'
def DT (Φ : Fam) (W : WX) (e : Expr) (w : WT) : Prop :=
  ∃ t, (∀ i, PT (Φ.X i) e t) ∧ ∀ (B : Bs) (F H : Hp) (σ : St) (δ : Dl) (Q : Bool → Dl → Prop) (E : XQ) (Qh : Bool → Hp → Prop), RB Φ.K B F H σ δ → w δ Q E → PostT Φ.K B σ δ F H Q Qh → XL Φ.K B W σ E → t σ H Qh
def DW (Φ : Fam) (W : WX) (e : Expr) (w : WT) : Prop :=
  ∃ t, (∀ i, PW (Φ.X i) e t) ∧ ∀ (B : Bs) (F H : Hp) (σ : St) (δ : Dl) (Q : Bool → Dl → Prop) (E : XQ) (Qh : Bool → Hp → Prop), RB Φ.K B F H σ δ → w δ Q E → PostT Φ.K B σ δ F H Q Qh → XL Φ.K B W σ E → t σ H Qh
theorem PostT.after {K : PySem.W.Frag} {B : Bs} {σ : St} {δ δ1 : Dl} {F H F1 H1 : Hp} {Q : Bool → Dl → Prop} {Qh : Bool → Hp → Prop} (p : PostT K B σ δ F H Q Qh) (s : Stp σ δ δ1 F H F1 H1) : PostT K B σ δ1 F1 H1 Q Qh :=
  fun b F' H' δ' r s' q => p b F' H' δ' r (s.trans s') q
def asB (Q : Bool → Dl → Prop) : SD → Dl → Prop := fun sd δ => match sd with
  | .d (.bl k) => Q k δ
  | _ => False
theorem asB_ok {K : PySem.W.Frag} {B : Bs} {H0 F H : Hp} {σ : St} {δ : Dl} {v : V} {Q : Bool → Dl → Prop} : ∀ {sd : SD}, SR K B H0 F H σ δ v sd → asB Q sd δ → ∃ k, v = .bl k ∧ Q k δ
  | .d (.bl k), r, q => by cases r; exact ⟨k, rfl, q⟩
def wB (w : WE) : WT := fun δ Q E => w δ (asB Q) E
section
variable {Φ : Fam} {W : WX} {a b c e : Expr} {rest : List Expr} {pos : Pos}
theorem dt_val {w : WE} (h : DE Φ W e w) (he : ∀ i whole, isTrue e (Φ.X i).env whole = (do let v ← whole; standAt e.pos; holding [v] (truthy v)) := by intro _ _; rfl) : DT Φ W e (wB w) := by
  obtain ⟨t, h1, h2⟩ := h
  exact ⟨_, fun i => pt_val (h1 i) (he i), fun B F H σ δ Q E Qh r hw p x => h2 B F H σ δ _ E _ r hw (fun v F' H' sd δ' r' s' sr q => let ⟨k, e1, e2⟩ := asB_ok sr q; ⟨k, e1, p k F' H' δ' r' s' e2⟩) x⟩
theorem dt_cmp {op : CmpOp} {s : S2} {wa wb : WO} (ho : BinD Φ (compareOp op) s) (ha : DO Φ W a wa) (hb : DO Φ W b wb) (hm : behindInMarks op b = false) : DT Φ W (.Compare a [op] [b] pos) (wB (wBin s wa wb)) := by
  obtain ⟨r, o1, o2⟩ := ho
  obtain ⟨ta, a1, a2⟩ := ha
  obtain ⟨tb, b1, b2⟩ := hb
  exact ⟨_, fun i => pt_cmpR (o1 i) (a1 i) (b1 i) hm, fun B F H σ δ Q E Qh r hw p x => bin_run o2 a2 b2 B F H σ δ _ E _ r hw (fun v F' H' sd δ' r' s' sr q => let ⟨k, e1, e2⟩ := asB_ok sr q; ⟨k, e1, p k F' H' δ' r' s' e2⟩) x⟩
def wChain (s s' : S2) (wa wb wc : WO) : WE := fun δ Q E => wa δ (fun o δ1 => wb δ1 (fun o' δ2 => match view δ2 o, view δ2 o' with
  | some x, some y => s x y (fun sd => asB (fun k δ3 => if k = true then wc δ3 (fun o'' δ4 => match view δ4 o', view δ4 o'' with
      | some y', some z => s' y' z (fun sd' => Q sd' δ4)
      | _, _ => False) E else Q (.d (.bl false)) δ3) sd δ2)
  | _, _ => False) E) E
def wNot (w : WT) : WT := fun δ Q E => w δ (fun b δ' => Q (!b) δ') E
def wAnd (w u : WT) : WT := fun δ Q E => w δ (fun b δ' => if b = true then u δ' Q E else Q false δ') E
def wOr (w u : WT) : WT := fun δ Q E => w δ (fun b δ' => if b = true then Q true δ' else u δ' Q E) E
theorem dt_not {w : WT} (h : DT Φ W a w) : DT Φ W (.UnaryOp .Not a pos) (wNot w) := by
  obtain ⟨t, h1, h2⟩ := h
  exact ⟨_, fun i => pt_not (h1 i), fun B F H σ δ Q E Qh r hw p x => h2 B F H σ δ _ E _ r hw (fun b F' H' δ' r' s' q => p _ F' H' δ' r' s' q) x⟩
theorem dw_or1 {w : WT} (h : DT Φ W a w) : DW Φ W (.BoolOp .Or [a] pos) w := by
  obtain ⟨t, h1, h2⟩ := h
  exact ⟨_, fun i => pw_or1 (h1 i), h2⟩
theorem dw_or {w u : WT} (h : DT Φ W a w) (h' : DW Φ W (.BoolOp .Or (b :: rest) pos) u) : DW Φ W (.BoolOp .Or (a :: b :: rest) pos) (wOr w u) := by
  obtain ⟨t, h1, h2⟩ := h
  obtain ⟨t', h1', h2'⟩ := h'
  refine ⟨_, fun i => pw_or (h1 i) (h1' i), fun B F H σ δ Q E Qh r hw p x => h2 B F H σ δ _ E _ r hw (fun k F' H' δ' r' s' q => ?_) x⟩
  cases k with
  | false => rw [if_neg Bool.false_ne_true] at q ⊢; exact h2' B F' H' σ δ' Q E Qh r' q (p.after s') x
  | true => rw [if_pos rfl] at q ⊢; exact p _ F' H' δ' r' s' q
theorem DW.t {w : WT} (h : DW Φ W e w) : DT Φ W e w := by
  obtain ⟨t, h1, h2⟩ := h
  exact ⟨_, fun i => (h1 i).pt, h2⟩
def vNot (w : WE) : WE := fun δ Q E => w δ (asB fun b δ' => Q (.d (.bl (!b))) δ') E
def vAnd (w u : WE) : WE := fun δ Q E => w δ (asB fun b δ' => if b = true then u δ' Q E else Q (.d (.bl false)) δ') E
def vOr (w u : WE) : WE := fun δ Q E => w δ (asB fun b δ' => if b = true then Q (.d (.bl true)) δ' else u δ' Q E) E
def wIfE (c : WT) (w u : WE) : WE := fun δ Q E => c δ (fun b δ' => if b = true then w δ' Q E else u δ' Q E) E
theorem DF.neg {w : WF} (h : DF Φ W a w) : DF Φ W (.UnaryOp .USub a pos) (fun δ Q E => w δ (fun x δ' => match x with | .int i => Q (.int (-i)) δ' | _ => False) E) := by
  obtain ⟨t, h1, h2⟩ := h
  refine ⟨_, fun i => pe_un un_neg (h1 i), fun B F H σ δ Q E Qh r hw p x => h2 B F H σ δ _ E _ r hw (fun v F' H' d δ' r' s' rep q => ?_) x⟩
  cases d with
  | int i => cases rep; exact ⟨i, rfl, p _ F' H' _ δ' r' s' (.int _) q⟩
  | _ => exact q.elim
abbrev WL := Dl → (List D → Dl → Prop) → XQ → Prop
def DA (Φ : Fam) (W : WX) (es : List Expr) (w : WL) : Prop :=
  ∃ t, (∀ i, PA (Φ.X i) es t) ∧ ∀ (B : Bs) (F H : Hp) (σ : St) (δ : Dl) (Q : List D → Dl → Prop) (E : XQ) (Qh : List V → Hp → Prop), RB Φ.K B F H σ δ → w δ Q E →
    (∀ vs F' H' xs δ', RB Φ.K B F' H' σ δ' → Stp σ δ δ' F H F' H' → RepL Φ.K F' vs xs → Q xs δ' → Qh vs H') → XL Φ.K B W σ E → t σ H Qh
def wNil : WL := fun δ Q _ => Q [] δ
def wCons (w : WF) (u : WL) : WL := fun δ Q E => w δ (fun x δ' => u δ' (fun xs δ2 => Q (x :: xs) δ2) E) E
theorem da_nil : DA Φ W [] wNil := ⟨_, fun _ => pa_nil, fun B F H σ δ Q E Qh r hw p _ => p [] F H [] δ r .refl .nil hw⟩
theorem da_cons {es : List Expr} {w : WF} {u : WL} (h : DF Φ W e w) (h' : DA Φ W es u) (hs : ∀ i, starEach (e :: es) (Φ.X i).env = (false, eval e (Φ.X i).env) :: starEach es (Φ.X i).env := by intro _; rfl) : DA Φ W (e :: es) (wCons w u) := by
  obtain ⟨t, h1, h2⟩ := h
  obtain ⟨t', h1', h2'⟩ := h'
  exact ⟨_, fun i => pa_cons (h1 i) (h1' i) (hs i), fun B F H σ δ Q E Qh r hw p x => h2 B F H σ δ _ E _ r hw (fun v F1 H1 d δ1 r1 s1 rep q => h2' B F1 H1 σ δ1 _ E _ r1 q (fun vs F2 H2 xs δ2 r2 s2 reps q2 => p _ F2 H2 _ δ2 r2 (s1.trans s2) (.cons (rep.mono s2.f) reps) q2) x) x⟩
def wLst (w : WL) : WE := fun δ Q E => w δ (fun xs δ' => xs.length ≤ sizeLine ∧ Q (.o (.l xs)) δ') E
def wTup (w : WL) : WE := fun δ Q E => w δ (fun xs δ' => xs.length ≤ sizeLine ∧ Q (.d (.tup xs)) δ') E
theorem de_lst {es : List Expr} {w : WL} (h : DA Φ W es w) : DE Φ W (.List es pos) (wLst w) := by
  obtain ⟨t, h1, h2⟩ := h
  exact ⟨_, fun i => pe_lst (h1 i), fun B F H σ δ Q E Qh r hw p x => h2 B F H σ δ _ E _ r hw (fun vs F' H' xs δ' r' s' reps q => ⟨by rw [reps.len]; exact q.1, (p.after s').lst r' reps q.2⟩) x⟩
theorem de_tup {es : List Expr} {x1} {w : WL} (h : DA Φ W es w) : DE Φ W (.Tuple es x1 pos) (wTup w) := by
  obtain ⟨t, h1, h2⟩ := h
  exact ⟨_, fun i => pe_tup (h1 i), fun B F H σ δ Q E Qh r hw p x => h2 B F H σ δ _ E _ r hw (fun vs F' H' xs δ' r' s' reps q => ⟨by rw [reps.len]; exact q.1, (p.after s').tup r' reps q.2⟩) x⟩
abbrev S1 := D → (SD → Prop) → Prop
def CallD (Φ : Fam) (f : Value) (s : S1) : Prop :=
  ∃ r, (∀ i, CallR (Φ.X i) f r) ∧ ∀ (B : Bs) (F H : Hp) (σ : St) (δ : Dl) (x : D) (v : V) (Q : SD → Dl → Prop) (Qh : VK), RB Φ.K B F H σ δ → PR Φ.K F H v x → s x (fun sd => Q sd δ) → Post Φ.K B σ δ F H Q Qh → r [v] H Qh
def wCall (s : S1) (w : WO) : WE := fun δ Q E => w δ (fun o δ1 => match view δ1 o with
  | some x => s x (fun sd => Q sd δ1)
  | none => False) E
theorem call_run {s : S1} {w : WO} {r : List V → Hp → VK → Prop} {t : TE} (hr : ∀ (B : Bs) (F H : Hp) (σ : St) (δ : Dl) (x : D) (v : V) (Q : SD → Dl → Prop) (Qh : VK), RB Φ.K B F H σ δ → PR Φ.K F H v x → s x (fun sd => Q sd δ) → Post Φ.K B σ δ F H Q Qh → r [v] H Qh)
    (h : ∀ (B : Bs) (F H : Hp) (σ : St) (δ : Dl) (Q : Op → Dl → Prop) (E : XQ) (Qh : VK), RB Φ.K B F H σ δ → w δ Q E → PostO Φ.K B σ δ F H Q Qh → XL Φ.K B W σ E → t σ H Qh) :
    ∀ (B : Bs) (F H : Hp) (σ : St) (δ : Dl) (Q : SD → Dl → Prop) (E : XQ) (Qh : VK), RB Φ.K B F H σ δ → wCall s w δ Q E → Post Φ.K B σ δ F H Q Qh → XL Φ.K B W σ E → tCB r (tCons t tNil) σ H Qh := by
  intro B F H σ δ Q E Qh rb hw p xl
  refine h B F H σ δ _ E _ rb hw (fun v F1 H1 o δ1 r1 s1 v1 q => ?_) xl
  split at q
  · rename_i x e
    exact hr B F1 H1 σ δ1 x v Q Qh r1 (r1.view v1 e) q (p.after s1)
  · exact q.elim
theorem de_callB {id : String} {x : Str} {p : Pos} {s : S1} {w : WO} (hc : CallD Φ (.builtin id) s) (hg : ∀ i, Gl (Φ.X i) x) (hm : ∀ i, (Φ.X i).mg x = none) (hv : bootBuiltins x = some (.builtin id)) (ha : DO Φ W e w) (hn : x ≠ "__name__" := by decide) (hdb : (x == ("__debug__" : Str)) = false := by decide)
    (he : ∀ i, starEach [e] (Φ.X i).env = (false, eval e (Φ.X i).env) :: starEach [] (Φ.X i).env := by intro _; rfl) (hpl : ∀ i, (backTo pos (starEach [] (Φ.X i).env)).any (·.1) = false := by intro _; rfl) : DE Φ W (.Call (.Name x p) [e] [] pos) (wCall s w) := by
  obtain ⟨r, c1, c2⟩ := hc
  obtain ⟨t, h1, h2⟩ := ha
  exact ⟨_, fun i => pe_callB (c1 i) (hg i) (hm i) hv (pa_cons (h1 i) pa_nil (he i)) hn hdb (he i) (hpl i), call_run c2 h2⟩
theorem de_callTy {T : String} {x : Str} {p : Pos} {s : S1} {w : WO} (hc : CallD Φ (.type T) s) (hg : ∀ i, Gl (Φ.X i) x) (hm : ∀ i, (Φ.X i).mg x = none) (hv : bootBuiltins x = some (.type T)) (ha : DO Φ W e w) (hn : x ≠ "__name__" := by decide) (hdb : (x == ("__debug__" : Str)) = false := by decide)
    (he : ∀ i, starEach [e] (Φ.X i).env = (false, eval e (Φ.X i).env) :: starEach [] (Φ.X i).env := by intro _; rfl) (hpl : ∀ i, (backTo pos (starEach [] (Φ.X i).env)).any (·.1) = false := by intro _; rfl) : DE Φ W (.Call (.Name x p) [e] [] pos) (wCall s w) := by
  obtain ⟨r, c1, c2⟩ := hc
  obtain ⟨t, h1, h2⟩ := ha
  exact ⟨_, fun i => pe_callTy (c1 i) (hg i) (hm i) hv (pa_cons (h1 i) pa_nil (he i)) hn hdb (he i) (hpl i), call_run c2 h2⟩
end
def sLen : S1 := fun x Q => match x with
  | .str z => z.length ≤ sizeLine ∧ Q (.d (.int z.length))
  | .lst xs => Q (.d (.int xs.length))
  | .tup xs => Q (.d (.int xs.length))
  | .scr xs => Q (.d (.int xs.length))
  | _ => False
section
variable {Φ : Fam}
theorem cd_len : CallD Φ (.builtin "len") sLen := by
  refine ⟨fun xs H Q => ∃ x n, xs = [x] ∧ LenV Φ.K x H n ∧ Q (.int n) H, fun i => by have h := call_len (X := Φ.X i); rw [Φ.hK i] at h; exact h, fun B F H σ δ x v Q Qh r hx hs p => ?_⟩
  unfold sLen at hs
  split at hs
  · obtain rfl := hx.str
    exact ⟨_, _, rfl, ⟨hs.1, rfl⟩, p.dat r (.int _) hs.2⟩
  · obtain ⟨a, vs, rfl, h1, h2⟩ := hx.lst r.sub
    exact ⟨_, _, rfl, .inl ⟨vs, .of h1, h2.len.symm⟩, p.dat r (.int _) hs⟩
  · obtain ⟨a, vs, rfl, h1, h2⟩ := hx.tup r.sub
    exact ⟨_, _, rfl, .inr ⟨vs, .of h1, h2.len.symm⟩, p.dat r (.int _) hs⟩
  · obtain ⟨a, rfl, h1⟩ := hx.scr r.sub
    exact ⟨_, _, rfl, .inl ⟨_, h1, by rw [List.length_map]⟩, p.dat r (.int _) hs⟩
  · exact hs.elim
def sToInt : S1 := fun x Q => match x with
  | .int i => Q (.d (.int i))
  | .bl b => Q (.d (.int (if b then 1 else 0)))
  | _ => False
theorem cd_int : CallD Φ (.type "int") sToInt := by
  refine ⟨_, fun _ => call_int1, fun B F H σ δ x v Q Qh r hx hs p => ?_⟩
  unfold sToInt at hs
  split at hs
  · obtain rfl := hx.int
    exact .inl ⟨_, rfl, p.dat r (.int _) hs⟩
  · obtain rfl := hx.bl
    exact .inr ⟨_, rfl, p.dat r (.int _) hs⟩
  · exact hs.elim
def sList : S1 := fun x Q => match x with
  | .lst xs => Q (.o (.l xs))
  | .tup xs => Q (.o (.l xs))
  | _ => False
def sTuple : S1 := fun x Q => match x with
  | .lst xs => Q (.d (.tup xs))
  | _ => False
def strs? : List D → Option (List Str)
  | [] => some []
  | .str x :: r => (strs? r).map (x :: ·)
  | _ => none
theorem strs?_map : ∀ xs : List Str, strs? (xs.map D.str) = some xs
  | [] => rfl
  | x :: xs => by
    show (strs? (xs.map D.str)).map (x :: ·) = _
    rw [strs?_map xs]
    rfl
def ints? : List D → Option (List Int)
  | [] => some []
  | .int x :: r => (ints? r).map (x :: ·)
  | _ => none
theorem ints?_map : ∀ xs : List Int, ints? (xs.map D.int) = some xs
  | [] => rfl
  | x :: xs => by
    show (ints? (xs.map D.int)).map (x :: ·) = _
    rw [ints?_map xs]
    rfl
def sSum : S1 := fun x Q => match x with
  | .lst xs => match ints? xs with
    | some ns => Q (.d (.int ns.sum))
    | none => False
  | _ => False
def sIx : S2 := fun x y Q => match x, y with
  | .lst xs, .int i => match atI xs i with
    | some d => Q (.d d)
    | none => False
  | .tup xs, .int i => match atI xs i with
    | some d => Q (.d d)
    | none => False
  | .str z, .int i => z.length ≤ sizeLine ∧ match atI z.cps.toList i with
    | some c => Q (.d (.str ⟨#[c]⟩))
    | none => False
  | .scr xs, .int i => match atI xs i with
    | some d => Q (.d (.int d))
    | none => False
  | _, _ => False
theorem RepL.atI {K : PySem.W.Frag} {F : Hp} {vs : List V} {xs : List D} {i : Int} {d : D} (r : RepL K F vs xs) (h : L2.atI xs i = some d) : ∃ v, L2.atI vs i = some v ∧ Rep K F v d := by
  unfold L2.atI at h ⊢
  rw [r.len]
  cases e : ixN xs.length i with
  | none => rw [e] at h; cases h
  | some j =>
    rw [e] at h
    exact r.get (i := j) h
theorem atI_ints {xs : List Int} {i d : Int} (h : L2.atI xs i = some d) : L2.atI (xs.map V.int) i = some (.int d) := by
  unfold L2.atI at h ⊢
  rw [List.length_map]
  cases e : ixN xs.length i with
  | none => rw [e] at h; cases h
  | some j =>
    rw [e] at h
    have h' : xs[j]? = some d := h
    show (xs.map V.int)[j]? = _
    rw [List.getElem?_map, h']
    rfl
theorem ix_d : ∃ r, (∀ i, IxR (Φ.X i) r) ∧ ∀ (B : Bs) (F H : Hp) (σ : St) (δ : Dl) (x y : D) (v u : V) (Q : SD → Dl → Prop) (Qh : VK), RB Φ.K B F H σ δ → PR Φ.K F H v x → PR Φ.K F H u y → sIx x y (fun sd => Q sd δ) → Post Φ.K B σ δ F H Q Qh → r v u H Qh := by
  refine ⟨rIx Φ.K, fun i => by have h := ix_seq (X := Φ.X i); rw [Φ.hK i] at h; exact h, fun B F H σ δ x y v u Q Qh r hx hy hs p => ?_⟩
  unfold sIx at hs
  split at hs
  · split at hs
    · rename_i xs i d e
      obtain ⟨a, vs, rfl, h1, h2⟩ := hx.lst r.sub
      obtain rfl := hy.int
      obtain ⟨v, e1, e2⟩ := h2.atI e
      exact .inl ⟨_, _, _, v, rfl, rfl, .of h1, e1, p.dat r e2 hs⟩
    · exact hs.elim
  · split at hs
    · rename_i xs i d e
      obtain ⟨a, vs, rfl, h1, h2⟩ := hx.tup r.sub
      obtain rfl := hy.int
      obtain ⟨v, e1, e2⟩ := h2.atI e
      exact .inr (.inl ⟨_, _, _, v, rfl, rfl, .of h1, e1, p.dat r e2 hs⟩)
    · exact hs.elim
  · obtain ⟨hl, hs⟩ := hs
    split at hs
    · rename_i z i c e
      obtain rfl := hx.str
      obtain rfl := hy.int
      exact .inr (.inr ⟨_, _, _, rfl, rfl, hl, e, p.dat r (.str _) hs⟩)
    · exact hs.elim
  · split at hs
    · rename_i xs i d e
      obtain ⟨a, rfl, h1⟩ := hx.scr r.sub
      obtain rfl := hy.int
      exact .inl ⟨_, _, _, _, rfl, rfl, h1, atI_ints e, p.dat r (.int _) hs⟩
    · exact hs.elim
  · exact hs.elim
def cutD {α : Type} (xs : List α) (lo hi : Option Int) : List α := (xs.drop (HT.sIx xs.length 0 lo)).take (HT.sIx xs.length xs.length hi - HT.sIx xs.length 0 lo)
theorem RepL.cut {K : PySem.W.Frag} {F : Hp} {vs : List V} {xs : List D} (lo hi : Option Int) (r : RepL K F vs xs) : RepL K F (cutV vs lo hi) (cutD xs lo hi) := by
  unfold cutV cutD
  rw [r.len]
  exact (r.drop _).take _
theorem cut_ints (ns : List Int) (lo hi : Option Int) : cutV (ns.map V.int) lo hi = (cutD ns lo hi).map V.int := by
  unfold cutV cutD
  rw [List.length_map, List.map_take, List.map_drop]
abbrev WP := Dl → (Option Int → Dl → Prop) → XQ → Prop
def DP (Φ : Fam) (W : WX) (e : Option Expr) (w : WP) : Prop :=
  ∃ t, (∀ i, PO (Φ.X i) e t) ∧ ∀ (B : Bs) (F H : Hp) (σ : St) (δ : Dl) (Q : Option Int → Dl → Prop) (E : XQ) (Qh : Option Int → Hp → Prop), RB Φ.K B F H σ δ → w δ Q E →
    (∀ o F' H' δ', RB Φ.K B F' H' σ δ' → Stp σ δ δ' F H F' H' → Q o δ' → Qh o H') → XL Φ.K B W σ E → t σ H Qh
variable {W : WX} {e : Expr} {lo hi : Option Expr} {pos p2 : Pos}
def wNoP : WP := fun δ Q _ => Q none δ
def wSoP (w : WF) : WP := fun δ Q E => w δ (fun x δ' => match x with
  | .int i => Q (some i) δ'
  | _ => False) E
theorem dp_none : DP Φ W none wNoP := ⟨_, fun _ => po_none, fun B F H σ δ Q E Qh r hw p _ => p none F H δ r .refl hw⟩
theorem dp_some {w : WF} (h : DF Φ W e w) : DP Φ W (some e) (wSoP w) := by
  obtain ⟨t, h1, h2⟩ := h
  refine ⟨_, fun i => po_some (h1 i), fun B F H σ δ Q E Qh r hw p x => h2 B F H σ δ _ E _ r hw (fun v F' H' d δ' r' s' rep q => ?_) x⟩
  cases d with
  | int i => cases rep; exact ⟨i, rfl, p _ F' H' δ' r' s' q⟩
  | _ => exact q.elim
def sCut (x : D) (lo hi : Option Int) (Q : SD → Prop) : Prop := match x with
  | .lst xs => Q (.o (.l (cutD xs lo hi)))
  | .scr xs => Q (.o (.l ((cutD xs lo hi).map .int)))
  | _ => False
def wCut (w : WO) (wl wh : WP) : WE := fun δ Q E => w δ (fun o δ1 => wl δ1 (fun l δ2 => wh δ2 (fun h δ3 => match view δ3 o with
  | some x => sCut x l h (fun sd => Q sd δ3)
  | none => False) E) E) E
theorem de_cut {w : WO} {wl wh : WP} (h : DO Φ W e w) (hl : DP Φ W lo wl) (hh : DP Φ W hi wh) : DE Φ W (.Subscript e (.Slice lo hi none p2) pos) (wCut w wl wh) := by
  obtain ⟨t, h1, h2⟩ := h
  obtain ⟨tl, l1, l2⟩ := hl
  obtain ⟨th, k1, k2⟩ := hh
  refine ⟨tSl (rSlL Φ.K) t tl th, fun i => pe_slice (by have h := sl_list (X := Φ.X i); rw [Φ.hK i] at h; exact h) (h1 i) (l1 i) (k1 i), fun B F H σ δ Q E Qh r hw p x => h2 B F H σ δ _ E _ r hw (fun v F1 H1 o δ1 r1 s1 v1 q1 => l2 B F1 H1 σ δ1 _ E _ r1 q1 (fun l F2 H2 δ2 r2 s2 q2 => k2 B F2 H2 σ δ2 _ E _ r2 q2 (fun h F3 H3 δ3 r3 s3 q3 => ?_) x) x) x⟩
  split at q3
  · rename_i y e
    have hx := r3.view (v1.step (s2.f.trans s3.f)) e
    have p3 := p.after ((s1.trans s2).trans s3)
    unfold sCut at q3
    split at q3
    · obtain ⟨a, vs, rfl, h1, h2⟩ := hx.lst r3.sub
      exact ⟨_, _, rfl, .of h1, p3.lst r3 (h2.cut l h) q3⟩
    · obtain ⟨a, rfl, h1⟩ := hx.scr r3.sub
      refine ⟨_, _, rfl, h1, p3.lst r3 ?_ q3⟩
      rw [cut_ints]
      exact repInts _
    · exact q3.elim
  · exact q3.elim
end
end DL
namespace DL
open PySem L2
abbrev DSp := Dl → (SD → Dl → Prop) → XQ → Prop
def toSp (K : PySem.W.Frag) (ds : DSp) : Sp := fun vs H Q E => ∃ (F : Hp) (O : List Addr) (α : Dl) (Qd : SD → Dl → Prop) (Ed : XQ),
  RB K ⟨F, H, O, vs.map some⟩ F H (vs.map some) α ∧ ds α Qd Ed ∧
  (∀ v F' H' sd α', RB K ⟨F, H, O, vs.map some⟩ F' H' (vs.map some) α' → SR K ⟨F, H, O, vs.map some⟩ H F' H' (vs.map some) α' v sd → Qd sd α' → Q v H') ∧
  (∀ F' H' α' C dd f v x, RB K ⟨F, H, O, vs.map some⟩ F' H' (vs.map some) α' → H' dd = some (.xd [(f, v)]) → H dd = none → Rep K F' v x → Ed C f x α' → E (.ref C) (some dd) H')
section
variable {K : PySem.W.Frag} {B : Bs} {F H F' H' : Hp} {σ : St} {δ : Dl}
def argsD (ds : List D) : Dl := ds.map fun d => some (.d d)
theorem argsD_get {ds : List D} {i : Nat} {sd : SD} (h : (argsD ds)[i]? = some (some sd)) : ∃ d, ds[i]? = some d ∧ sd = .d d := by
  unfold argsD at h
  rw [List.getElem?_map] at h
  cases e : ds[i]? with
  | none => rw [e] at h; cases h
  | some d => rw [e] at h; cases h; exact ⟨d, rfl, rfl⟩
theorem argsD_own {ds : List D} {i : Nat} : ¬ isOwn (argsD ds) i := fun ⟨c, e⟩ => by
  rcases e with e | e <;> (obtain ⟨d, _, z⟩ := argsD_get e; cases z)
theorem st_get {vs : List V} {i : Nat} {v : V} (h : vs[i]? = some v) : (vs.map some)[i]? = some (some v) := by rw [List.getElem?_map, h]; rfl
theorem RB.args (r : RB K B F H σ δ) {vs : List V} {ds : List D} (h : RepL K F vs ds) : RB K ⟨F, H, [], vs.map some⟩ F H (vs.map some) (argsD ds) := by
  refine ⟨r.sub, by unfold argsD; rw [List.length_map, List.length_map, h.len], fun i x e => ?_, fun i c e => ?_, fun i c e => ?_, fun i j a h1 => absurd h1 argsD_own, .refl _, fun b o e _ => e, fun b hb => (nomatch hb), fun b o e _ => .inl ⟨o, e⟩⟩
  · obtain ⟨d, e1, e2⟩ := argsD_get e
    cases e2
    obtain ⟨v, e3, e4⟩ := h.get e1
    exact ⟨v, st_get e3, e4⟩
  · obtain ⟨d, e1, e2⟩ := argsD_get e
    cases e2
  · obtain ⟨d, e1, e2⟩ := argsD_get e
    cases e2
theorem RB.back {τ : St} {α : Dl} (r : RB K B F H σ δ) (r' : RB K ⟨F, H, [], τ⟩ F' H' τ α) : RB K B F' H' σ δ ∧ Stp σ δ δ F H F' H' := by
  have hh : Same H H' := fun b o e => r'.h0 b o e (fun z => nomatch z)
  have fn : ∀ {a o}, F a = none → H a = some o → ¬ IsKT o → F' a = none := fun {a o} h1 h2 nt => by
    cases e : F' a with
    | none => rfl
    | some u =>
      rcases r'.nw a u e (fun z => nt (z.at h2)) with ⟨z, q⟩ | q
      · have q' : F a = some z := q
        rw [h1] at q'; cases q'
      · have q' : H a = none := q
        rw [h2] at q'; cases q'
  have oa : ∀ {a c}, OwnA K F H a c → OwnA K F' H' a c := fun {a c} ⟨h1, u, h2, h3⟩ => ⟨fn h1 h2 h3.nkt, u, hh _ _ h2, h3.mono r'.f0⟩
  refine ⟨⟨r'.sub, r.len, fun i x e => let ⟨v, h1, h2⟩ := r.dat i x e; ⟨v, h1, h2.mono r'.f0⟩, fun i c e => let ⟨a, h1, h2, h3⟩ := r.own i c e; ⟨a, h1, oa h2, h3⟩, fun i c e => let ⟨a, h1, h2, h3⟩ := r.par i c e; ⟨a, h1, oa h2, h3⟩, r.apt, r.f0.trans r'.f0,
    fun b o e n => hh _ _ (r.h0 b o e n), fun b hb => ?_, fun b o e nk => ?_⟩, ⟨r'.f0, fun b o e _ => hh _ _ e, fun b o e nk => ?_, fun _ z => z, fun b o e => ⟨o, hh _ _ e⟩⟩⟩
  · obtain ⟨h1, ⟨o, h2, nt⟩, h3⟩ := r.hO b hb
    exact ⟨fn h1 h2 nt, ⟨o, hh _ _ h2, nt⟩, h3⟩
  · by_cases c : Kt H b o
    · exact .inr (r.ktB c nk)
    rcases r'.nw b o e c with ⟨z, q⟩ | q
    · have zo : z = o := by
        have := r'.f0 b z q
        rw [e] at this
        exact (Option.some.inj this).symm
      exact r.nw b z q (by rw [zo]; exact nk)
    · exact .inr (r.hnone q)
  · rcases r'.nw b o e nk with ⟨z, q⟩ | q
    · exact .inl ⟨z, q⟩
    · exact .inr (.inl q)
theorem SR.back {τ : St} {α : Dl} {v : V} (r : RB K B F H σ δ) (r' : RB K B F' H' σ δ) (s : Stp σ δ δ F H F' H') : ∀ {sd : SD}, SR K ⟨F, H, [], τ⟩ H F' H' τ α v sd → SR K B H F' H' σ δ v sd
  | .d _, h => h
  | .o _, ⟨a, e, h, _, _, z⟩ => ⟨a, e, h, r.now z, r.hnone z, z⟩
  | .p _, h => h.elim
theorem RB.argsP (r : RB K B F H σ δ) {a : Addr} {c : Cn} {vs : List V} {ds : List D} (o : OwnA K F H a c) (h : RepL K F vs ds) : RB K ⟨F, H, [a], (V.ref a :: vs).map some⟩ F H ((V.ref a :: vs).map some) (some (.p c) :: argsD ds) := by
  have ow0 : ∀ {i}, isOwn (some (.p c) :: argsD ds) i → i = 0 := fun {i} ⟨c', e⟩ => by
    cases i with
    | zero => rfl
    | succ i => exact absurd ⟨c', e⟩ (argsD_own (ds := ds) (i := i))
  refine ⟨r.sub, ?_, fun i x e => ?_, fun i c' e => ?_, fun i c' e => ?_, fun i j b h1 h2 _ _ => (ow0 h1).trans (ow0 h2).symm, .refl _, fun b u e _ => e, fun b hb => ?_, fun b u e _ => .inl ⟨u, e⟩⟩
  · unfold argsD
    rw [List.length_cons, List.length_map, List.length_map, List.length_cons, h.len]
  · cases i with
    | zero => cases e
    | succ i =>
      obtain ⟨d, e1, e2⟩ := argsD_get (i := i) e
      cases e2
      obtain ⟨v, e3, e4⟩ := h.get e1
      exact ⟨v, st_get (i := i) e3, e4⟩
  · cases i with
    | zero => cases e
    | succ i =>
      obtain ⟨d, e1, e2⟩ := argsD_get (i := i) e
      cases e2
  · cases i with
    | zero =>
      cases e
      exact ⟨a, rfl, o, List.mem_cons_self, rfl⟩
    | succ i =>
      obtain ⟨d, e1, e2⟩ := argsD_get (i := i) e
      cases e2
  · have e : b = a := by simpa using hb
    subst e
    obtain ⟨h1, u, h2, h3⟩ := o
    exact ⟨h1, ⟨u, h2, h3.nkt⟩, u, h2⟩
def keepKind (δ : Dl) (i : Nat) (c : Cn) : Dl := match δ[i]? with
  | some (some (.o _)) => δ.set i (some (.o c))
  | some (some (.p _)) => δ.set i (some (.p c))
  | _ => δ
def ownOf (δ : Dl) (i : Nat) : Option Cn := match δ[i]? with
  | some (some (.o c)) => some c
  | some (some (.p c)) => some c
  | _ => none
theorem ownOf_at (r : RB K B F H σ δ) {i : Nat} {c : Cn} (h : ownOf δ i = some c) : ∃ a, σ[i]? = some (some (.ref a)) ∧ OwnA K F H a c ∧ Ow σ δ a := by
  unfold ownOf at h
  split at h
  · rename_i c' e
    cases h
    obtain ⟨a, h1, h2, _⟩ := r.own i c e
    exact ⟨a, h1, h2, i, ⟨c, .inl e⟩, h1⟩
  · rename_i c' e
    cases h
    obtain ⟨a, h1, h2, _⟩ := r.par i c e
    exact ⟨a, h1, h2, i, ⟨c, .inr e⟩, h1⟩
  · cases h
theorem keepKind_get {δ : Dl} {i j : Nat} {c c0 : Cn} (h : ownOf δ i = some c0) : (keepKind δ i c)[j]? = if i = j then (match δ[i]? with | some (some (.o _)) => some (some (.o c)) | _ => some (some (.p c))) else δ[j]? := by
  unfold keepKind
  unfold ownOf at h
  split at h
  · rename_i c' e
    have hi : i < δ.length := (List.getElem?_eq_some_iff.mp e).1
    by_cases q : i = j
    · subst q
      rw [if_pos rfl, e]
      simp only [List.getElem?_set_self hi]
    · rw [if_neg q]
      simp only [List.getElem?_set_ne q]
  · rename_i c' e
    have hi : i < δ.length := (List.getElem?_eq_some_iff.mp e).1
    by_cases q : i = j
    · subst q
      rw [if_pos rfl, e]
      simp only [List.getElem?_set_self hi]
    · rw [if_neg q]
      simp only [List.getElem?_set_ne q]
  · cases h
theorem keepKind_len (δ : Dl) (i : Nat) (c : Cn) : (keepKind δ i c).length = δ.length := by
  unfold keepKind
  split <;> simp
theorem isOwn_keep {i j : Nat} {c c0 : Cn} (h : ownOf δ i = some c0) (q : isOwn (keepKind δ i c) j) : isOwn δ j := by
  obtain ⟨c', e⟩ := q
  rw [keepKind_get h] at e
  by_cases z : i = j
  · subst z
    unfold ownOf at h
    split at h
    · rename_i c2 e2; exact ⟨c2, .inl e2⟩
    · rename_i c2 e2; exact ⟨c2, .inr e2⟩
    · cases h
  · rw [if_neg z] at e
    exact ⟨c', e⟩
theorem RB.chg {i : Nat} {a : Addr} {c c0 : Cn} (r : RB K B F H σ δ) (h : ownOf δ i = some c0) (ha : σ[i]? = some (some (.ref a))) (f : Same F F') (sub : Same F' H') (oa : OwnA K F' H' a c) (hh : ∀ b o, H b = some o → b ≠ a → H' b = some o)
    (nw : ∀ b o, F' b = some o → ¬ Kt H b o → (∃ o', F b = some o') ∨ H b = none) : RB K B F' H' σ (keepKind δ i c) ∧ Stp σ δ (keepKind δ i c) F H F' H' := by
  obtain ⟨a', ha', o0, ow⟩ := ownOf_at r h
  rw [ha] at ha'; cases ha'
  have fn : ∀ {b o}, F b = none → H b = some o → ¬ IsKT o → F' b = none := fun {b o} h1 h2 nt => by
    cases e : F' b with
    | none => rfl
    | some u =>
      rcases nw b u e (fun z => nt (z.at h2)) with ⟨z, q⟩ | q
      · rw [h1] at q; cases q
      · rw [h2] at q; cases q
  have oth : ∀ {b c'}, OwnA K F H b c' → b ≠ a → OwnA K F' H' b c' := fun {b c'} ⟨h1, u, h2, h3⟩ n => ⟨fn h1 h2 h3.nkt, u, hh _ _ h2 n, h3.mono f⟩
  have iso : isOwn δ i := by
    obtain ⟨j, q, hs⟩ := ow
    unfold ownOf at h
    split at h
    · rename_i c2 e2; exact ⟨c2, .inl e2⟩
    · rename_i c2 e2; exact ⟨c2, .inr e2⟩
    · cases h
  have nea : ∀ {j b c'}, i ≠ j → (δ[j]? = some (some (.o c')) ∨ δ[j]? = some (some (.p c'))) → σ[j]? = some (some (.ref b)) → b ≠ a := fun {j b c'} q e hb z => by
    subst z
    exact q (r.apt i j b iso ⟨c', e⟩ ha hb)
  have hk : ∀ b o, H b = some o → ∃ o', H' b = some o' := fun b o e => by
    by_cases q : b = a
    · subst q
      obtain ⟨_, u, h2, _⟩ := oa
      exact ⟨u, h2⟩
    · exact ⟨o, hh b o e q⟩
  refine ⟨⟨sub, by rw [keepKind_len]; exact r.len, fun j x e => ?_, fun j c' e => ?_, fun j c' e => ?_, fun j l b h1 h2 h3 h4 => r.apt j l b (isOwn_keep h h1) (isOwn_keep h h2) h3 h4, r.f0.trans f, fun b o e n => ?_, fun b hb => ?_, fun b o e nk => ?_⟩,
    ⟨f, fun b o e n => hh b o e fun z => n (z ▸ ow), fun b o e nk => ?_, fun b ⟨j, q, hs⟩ => ⟨j, isOwn_keep h q, hs⟩, hk⟩⟩
  · rw [keepKind_get h] at e
    by_cases q : i = j
    · rw [if_pos q] at e
      split at e <;> cases e
    · rw [if_neg q] at e
      obtain ⟨v, h1, h2⟩ := r.dat j x e
      exact ⟨v, h1, h2.mono f⟩
  · rw [keepKind_get h] at e
    by_cases q : i = j
    · subst q
      rw [if_pos rfl] at e
      split at e
      · rename_i c2 e2
        cases e
        obtain ⟨b, h1, _, h3⟩ := r.own i c2 e2
        rw [ha] at h1; cases h1
        exact ⟨a, ha, oa, h3⟩
      · cases e
    · rw [if_neg q] at e
      obtain ⟨b, h1, h2, h3⟩ := r.own j c' e
      exact ⟨b, h1, oth h2 (nea q (.inl e) h1), h3⟩
  · rw [keepKind_get h] at e
    by_cases q : i = j
    · subst q
      rw [if_pos rfl] at e
      split at e
      · cases e
      · rename_i ne
        cases e
        unfold ownOf at h
        split at h
        · rename_i c2 e2; exact absurd e2 (ne c2)
        · rename_i c2 e2
          obtain ⟨b, h1, _, h3⟩ := r.par i c2 e2
          rw [ha] at h1; cases h1
          exact ⟨a, ha, oa, h3⟩
        · cases h
    · rw [if_neg q] at e
      obtain ⟨b, h1, h2, h3⟩ := r.par j c' e
      exact ⟨b, h1, oth h2 (nea q (.inr e) h1), h3⟩
  · refine hh b o (r.h0 b o e n) fun z => ?_
    subst z
    unfold ownOf at h
    split at h
    · rename_i c2 e2
      obtain ⟨b', h1, _, h3⟩ := r.own i c2 e2
      rw [ha] at h1; cases h1
      rw [h3] at e; cases e
    · rename_i c2 e2
      obtain ⟨b', h1, _, h3, _⟩ := r.par i c2 e2
      rw [ha] at h1; cases h1
      exact n h3
    · cases h
  · obtain ⟨h1, ⟨o, h2, nt⟩, h3⟩ := r.hO b hb
    refine ⟨fn h1 h2 nt, ?_, h3⟩
    by_cases q : b = a
    · subst q
      obtain ⟨_, u, h4, h5⟩ := oa
      exact ⟨u, h4, h5.nkt⟩
    · exact ⟨o, hh b o h2 q, nt⟩
  · by_cases c : Kt H b o
    · exact .inr (r.ktB c nk)
    rcases nw b o e c with ⟨z, q⟩ | q
    · have zo : z = o := by
        have := f b z q
        rw [e] at this
        exact (Option.some.inj this).symm
      exact r.nw b z q (by rw [zo]; exact nk)
    · exact .inr (r.hnone q)
  · rcases nw b o e nk with ⟨z, q⟩ | q
    · exact .inl ⟨z, q⟩
    · exact .inr (.inl q)
end
structure FnD (Φ : Fam) (k : Nat) (f : Addr) (fd : FuncData) (ps : List Str) (ds : DSp) : Prop where
  ok : ∀ i, FnOk (Φ.X i).prog (Φ.X i).w (Φ.X i).K (Φ.X i).mg (Φ.X i).base (L2.CX (Φ.X i).prog (Φ.X i).w) k f fd ps (toSp Φ.K ds)
  kp : ∀ i, PySem.W.keepIn (Φ.X i).K (.ref f) = true
  bi : ∀ i, Binds (Φ.X i).K fd ps []
section
variable {Φ : Fam} {W : WX} {k : Nat} {f : Addr} {fd : FuncData} {ps : List Str} {ds : DSp} {x : Str} {p pos : Pos} {e : Expr} {es : List Expr}
def wFn (ds : DSp) (w : WL) : WE := fun δ Q E => w δ (fun xs δ1 => ds (argsD xs) (fun sd _ => Q sd δ1) (fun C f x _ => E C f x δ1)) E
def wFnP (ds : DSp) (i : Nat) (w : WL) : WE := fun δ Q E => (∃ c0, ownOf δ i = some c0) ∧ w δ (fun xs δ1 => match ownOf δ1 i with
  | some c => ds (some (.p c) :: argsD xs) (fun sd α => match α with
      | some (.p c') :: _ => Q sd (keepKind δ1 i c')
      | _ => False) (fun C f x α => match α with
      | some (.p c') :: _ => E C f x (keepKind δ1 i c')
      | _ => False)
  | none => False) E
theorem hdP {α : Dl} {R : Cn → Prop} (h : match α with | some (.p c') :: _ => R c' | _ => False) : ∃ c' r, α = some (.p c') :: r ∧ R c' := by
  split at h
  · exact ⟨_, _, rfl, h⟩
  · exact h.elim
end
structure WEnds where
  nx : Dl → Prop
  rt : SD → Dl → Prop
  bk : Dl → Prop := fun _ => False
  ct : Dl → Prop := fun _ => False
abbrev WS := WEnds → XQ → Dl → Prop
structure LK (K : PySem.W.Frag) (B : Bs) (M : WEnds) (D : Ends) : Prop where
  nx : ∀ F H σ δ, RB K B F H σ δ → M.nx δ → D.nx σ H
  rt : ∀ v F H σ δ sd, RB K B F H σ δ → SR K B B.H F H σ δ v sd → M.rt sd δ → D.rt v H
  bk : ∀ F H σ δ, RB K B F H σ δ → M.bk δ → D.bk σ H
  ct : ∀ F H σ δ, RB K B F H σ δ → M.ct δ → D.ct σ H
def DS (Φ : Fam) (W : WX) (st : Stmt) (w : WS) : Prop :=
  ∃ t, (∀ i, PS (Φ.X i) st t) ∧ ∀ (B : Bs) (F H : Hp) (σ : St) (δ : Dl) (M : WEnds) (E : XQ) (D : Ends), RB Φ.K B F H σ δ → w M E δ → LK Φ.K B M D → (∀ σ', XL Φ.K B W σ' E) → t D σ H
def DSs (Φ : Fam) (W : WX) (st : List Stmt) (w : WS) : Prop :=
  ∃ t, (∀ i, PSs (Φ.X i) st t) ∧ ∀ (B : Bs) (F H : Hp) (σ : St) (δ : Dl) (M : WEnds) (E : XQ) (D : Ends), RB Φ.K B F H σ δ → w M E δ → LK Φ.K B M D → (∀ σ', XL Φ.K B W σ' E) → t D σ H
section
variable {Φ : Fam} {W : WX} {st : Stmt} {rest : List Stmt} {e : Expr} {pos : Pos}
def wNext : WS := fun M _ δ => M.nx δ
def wSeq (w u : WS) : WS := fun M E δ => w { M with nx := u M E } E δ
theorem dss_nil : DSs Φ W [] wNext := ⟨_, fun _ => pss_nil, fun B F H σ δ M E D r h l _ => l.nx F H σ δ r h⟩
theorem dss_cons {w u : WS} (h : DS Φ W st w) (h' : DSs Φ W rest u) : DSs Φ W (st :: rest) (wSeq w u) := by
  obtain ⟨t, h1, h2⟩ := h
  obtain ⟨t', h1', h2'⟩ := h'
  refine ⟨_, fun i => pss_cons (h1 i) (h1' i), fun B F H σ δ M E D r hw l x => h2 B F H σ δ _ E _ r hw ⟨fun F1 H1 σ1 δ1 r1 q => h2' B F1 H1 σ1 δ1 M E D r1 q l x, l.rt, l.bk, l.ct⟩ x⟩
theorem dss_one {w : WS} (h : DS Φ W st w) : DSs Φ W [st] w := by
  obtain ⟨t, h1, h2⟩ := h
  exact ⟨_, fun i => pss_one (h1 i), h2⟩
def wBreak : WS := fun M _ δ => M.bk δ
def wCont : WS := fun M _ δ => M.ct δ
def wDrop (w : WE) : WS := fun M E δ => w δ (fun _ δ' => M.nx δ') E
def wRet (w : WE) : WS := fun M E δ => w δ (fun sd δ' => M.rt sd δ') E
theorem ds_ret {w : WE} (h : DE Φ W e w) : DS Φ W (.Return (some e) pos) (wRet w) := by
  obtain ⟨t, h1, h2⟩ := h
  exact ⟨_, fun i => ps_ret (h1 i), fun B F H σ δ M E D r hw l x => h2 B F H σ δ _ E _ r hw (fun v F1 H1 sd δ1 r1 s1 sr q => l.rt v F1 H1 σ δ1 sd r1 (sr.old fun p z => r.hnone z) q) (x σ)⟩
def wRetN : WS := fun M _ δ => M.rt (.d .non) δ
def wIf (c : WT) (w u : WS) : WS := fun M E δ => c δ (fun b δ' => if b = true then w M E δ' else u M E δ') E
theorem ds_if {c : Expr} {a b : List Stmt} {wc : WT} {w u : WS} (hc : DT Φ W c wc) (h : DSs Φ W a w) (h' : DSs Φ W b u) : DS Φ W (.If c a b pos) (wIf wc w u) := by
  obtain ⟨tc, c1, c2⟩ := hc
  obtain ⟨t, h1, h2⟩ := h
  obtain ⟨t', h1', h2'⟩ := h'
  refine ⟨_, fun i => ps_if (c1 i) (h1 i) (h1' i), fun B F H σ δ M E D r hw l x => c2 B F H σ δ _ E _ r hw (fun k F1 H1 δ1 r1 s1 q => ?_) (x σ)⟩
  cases k with
  | true => rw [if_pos rfl] at q ⊢; exact h2 B F1 H1 σ δ1 M E D r1 q l x
  | false => rw [if_neg Bool.false_ne_true] at q ⊢; exact h2' B F1 H1 σ δ1 M E D r1 q l x
def wNever : WS := fun _ _ _ => False
theorem RB.put {K : PySem.W.Frag} {B : Bs} {H0 F H : Hp} {σ : St} {δ : Dl} {i : Nat} {v : V} {sd : SD} (r : RB K B F H σ δ) (h : SR K B H0 F H σ δ v sd) (hi : i < δ.length) : RB K B F H (σ.set i (some v)) (δ.set i (some sd)) := by
  have hs : i < σ.length := by rw [← r.len]; exact hi
  have gs : ∀ {j w}, (σ.set i (some v))[j]? = some (some w) → (i = j ∧ w = v) ∨ (i ≠ j ∧ σ[j]? = some (some w)) := fun {j w} e => by
    by_cases q : i = j
    · subst q
      rw [List.getElem?_set_self hs] at e
      cases e
      exact .inl ⟨rfl, rfl⟩
    · rw [List.getElem?_set_ne q] at e
      exact .inr ⟨q, e⟩
  have gd : ∀ {j u}, (δ.set i (some sd))[j]? = some (some u) → (i = j ∧ u = sd) ∨ (i ≠ j ∧ δ[j]? = some (some u)) := fun {j u} e => by
    by_cases q : i = j
    · subst q
      rw [List.getElem?_set_self hi] at e
      cases e
      exact .inl ⟨rfl, rfl⟩
    · rw [List.getElem?_set_ne q] at e
      exact .inr ⟨q, e⟩
  have to : ∀ {j w}, i ≠ j → σ[j]? = some (some w) → (σ.set i (some v))[j]? = some (some w) := fun {j w} q e => by rw [List.getElem?_set_ne q]; exact e
  refine ⟨r.sub, by rw [List.length_set, List.length_set]; exact r.len, fun j x e => ?_, fun j c e => ?_, fun j c e => ?_, fun j l a h1 h2 h3 h4 => ?_, r.f0, r.h0, r.hO, r.nw⟩
  · rcases gd e with ⟨rfl, e1⟩ | ⟨q, e1⟩
    · subst e1
      exact ⟨v, List.getElem?_set_self hs, h⟩
    · obtain ⟨w, e2, e3⟩ := r.dat j x e1
      exact ⟨w, to q e2, e3⟩
  · rcases gd e with ⟨rfl, e1⟩ | ⟨q, e1⟩
    · subst e1
      obtain ⟨a, rfl, o, _, hb, _⟩ := h
      exact ⟨a, List.getElem?_set_self hs, o, hb⟩
    · obtain ⟨a, e2, e3⟩ := r.own j c e1
      exact ⟨a, to q e2, e3⟩
  · rcases gd e with ⟨rfl, e1⟩ | ⟨q, e1⟩
    · subst e1
      exact h.elim
    · obtain ⟨a, e2, e3⟩ := r.par j c e1
      exact ⟨a, to q e2, e3⟩
  · have old : ∀ {j}, i ≠ j → isOwn (δ.set i (some sd)) j → isOwn δ j := fun {j} q ⟨c, e⟩ => ⟨c, by rw [List.getElem?_set_ne q] at e; exact e⟩
    have newo : isOwn (δ.set i (some sd)) i → ∀ {l}, i ≠ l → isOwn δ l → v = .ref a → σ[l]? = some (some (.ref a)) → False := fun ⟨c, e⟩ {l} q o ev e4 => by
      rcases e with e | e
      · rw [List.getElem?_set_self hi] at e
        injection e with e; injection e with e
        subst e
        obtain ⟨b, e5, _, n, _⟩ := h
        rw [ev] at e5; cases e5
        exact n ⟨l, o, e4⟩
      · rw [List.getElem?_set_self hi] at e
        injection e with e; injection e with e
        subst e
        exact h.elim
    rcases gs h3 with ⟨e1, e2⟩ | ⟨q1, e1⟩
    · rcases gs h4 with ⟨e3, e4⟩ | ⟨q2, e3⟩
      · rw [← e1, ← e3]
      · subst e1
        exact (newo h1 q2 (old q2 h2) e2.symm e3).elim
    · rcases gs h4 with ⟨e3, e4⟩ | ⟨q2, e3⟩
      · subst e3
        exact (newo h2 q1 (old q1 h1) e4.symm e1).elim
      · exact r.apt j l a (old q1 h1) (old q2 h2) e1 e3
def wSet (i : Nat) (w : WE) : WS := fun M E δ => i < δ.length ∧ w δ (fun sd δ' => i < δ'.length ∧ M.nx (δ'.set i (some sd))) E
theorem ds_set {w : WE} (i : Nat) {x : Str} {pos' : Pos} (h : DE Φ W e w) (hN : ∀ j, (Φ.X j).N.Nodup) (hi : ∀ j, (Φ.X j).N[i]? = some x := by intro _; rfl) (hx : ∀ j, Loc (Φ.X j).env.scope x := by intro _; first | exact Or.inl rfl | exact Or.inr rfl)
    (hs : ∀ j, swapsWith e (some (.Name x pos')) pos.line (Φ.X j).env = pure false := by intro _; rfl) (hf : ∀ j, (Φ.X j).fn x = true ∨ (Φ.X j).env.scope.names.lookup x = some .local := by intro _; first | exact .inl rfl | exact .inr rfl) :
    DS Φ W (.Assign [.Name x pos'] e pos) (wSet i w) := by
  obtain ⟨t, h1, h2⟩ := h
  exact ⟨_, fun j => ps_set (hN j) (hi j) (hx j) (h1 j) (hs j) (hf j), fun B F H σ δ M E D r hw l x => h2 B F H σ δ _ E _ r hw.2 (fun v F1 H1 sd δ1 r1 s1 sr q => l.nx F1 H1 _ _ (r1.put sr q.1) q.2) (x σ)⟩
end
end DL
namespace DL
open PySem L2
structure ItOk (K : PySem.W.Frag) (J : It) (F0 : Hp) (xs : List D) : Prop where
  stop : ∀ (i : Nat) (F H : Hp), Same F0 F → Same F H → xs.length ≤ i → J.stop i H
  go : ∀ (i : Nat) (d : D) (F H : Hp), Same F0 F → Same F H → xs[i]? = some d → J.go i H
  yld : ∀ (i : Nat) (d : D) (B : Bs) (F H : Hp) (σ : St) (δ : Dl) (x : V) (H3 : Hp), xs[i]? = some d → Same F0 F → RB K B F H σ δ → J.yld i H x H3 → ∃ F3, RB K B F3 H3 σ δ ∧ Stp σ δ δ F H F3 H3 ∧ Rep K F3 x d
abbrev WI := Dl → (List D → Dl → Prop) → XQ → Prop
def DI (Φ : Fam) (W : WX) (tg iter : Expr) (w : WI) : Prop :=
  ∃ t, (∀ i, PI (Φ.X i) tg iter t) ∧ ∀ (B : Bs) (F H : Hp) (σ : St) (δ : Dl) (Q : List D → Dl → Prop) (E : XQ) (R : It → Hp → Prop), RB Φ.K B F H σ δ → w δ Q E →
    (∀ J F' H' xs δ', RB Φ.K B F' H' σ δ' → Stp σ δ δ' F H F' H' → ItOk Φ.K J F' xs → Q xs δ' → R J H') → XL Φ.K B W σ E → t σ H R
section
variable {K : PySem.W.Frag} {F : Hp}
theorem itOk_list {a : Addr} {vs : List V} {xs : List D} (h : F a = some (.lst vs)) (r : RepL K F vs xs) : ItOk K (Itl K a) F xs := by
  refine ⟨fun i F' H s1 s2 hi => ⟨vs, .of (s2 _ _ (s1 _ _ h)), by rw [r.len]; exact hi⟩, fun i d F' H s1 s2 e => ?_, fun i d B F' H σ δ x H3 e s1 rb y => ?_⟩
  · obtain ⟨v, e1, _⟩ := r.get e
    exact ⟨vs, v, .of (s2 _ _ (s1 _ _ h)), e1⟩
  · obtain ⟨rfl, y⟩ := y
    obtain ⟨v, e1, e2⟩ := r.get e
    have z := y vs (.of (rb.sub _ _ (s1 _ _ h)))
    rw [e1] at z; cases z
    exact ⟨F', rb, .refl, e2.mono s1⟩
def rangeD (lo : Int) (n : Nat) : List D := (List.range n).map fun i => .int (lo + (i : Nat))
theorem rangeD_len (lo : Int) (n : Nat) : (rangeD lo n).length = n := by unfold rangeD; rw [List.length_map, List.length_range]
theorem rangeD_get {lo : Int} {n i : Nat} {d : D} (h : (rangeD lo n)[i]? = some d) : i < n ∧ d = .int (lo + (i : Nat)) := by
  unfold rangeD at h
  rw [List.getElem?_map] at h
  cases e : (List.range n)[i]? with
  | none => rw [e] at h; cases h
  | some j =>
    rw [e] at h
    obtain ⟨h1, h2⟩ := List.getElem?_eq_some_iff.mp e
    rw [List.getElem_range] at h2
    subst h2
    rw [List.length_range] at h1
    cases h
    exact ⟨h1, rfl⟩
theorem itOk_rng (lo : Int) (n : Nat) : ItOk K (Itr lo n) F (rangeD lo n) := by
  refine ⟨fun i F' H s1 s2 hi => by rw [rangeD_len] at hi; exact hi, fun i d F' H s1 s2 e => (rangeD_get e).1, fun i d B F' H σ δ x H3 e s1 rb y => ?_⟩
  obtain ⟨rfl, rfl⟩ := y
  rw [(rangeD_get e).2]
  exact ⟨F', rb, .refl, .int _⟩
def charsD (z : Str) : List D := z.cps.toList.map fun c => D.str ⟨#[c]⟩
def enumD (xs : List D) : List D := xs.zipIdx.map fun p => D.tup [.int (p.2 : Nat), p.1]
end
section
variable {Φ : Fam} {W : WX} {tg e : Expr} {pos p : Pos}
def wiSeq (w : WF) : WI := fun δ Q E => w δ (fun x δ' => match x with
  | .lst xs => Q xs δ'
  | _ => False) E
def wiTup (w : WF) : WI := fun δ Q E => w δ (fun x δ' => match x with
  | .tup xs => Q xs δ'
  | _ => False) E
theorem di_list {w : WF} (h : DF Φ W e w) : DI Φ W tg e (wiSeq w) := by
  obtain ⟨t, h1, h2⟩ := h
  refine ⟨iList Φ.K t, fun i => by have h := pi_list (X := Φ.X i) (tg := tg) (h1 i); rw [Φ.hK i] at h; exact h, fun B F H σ δ Q E R r hw p x => h2 B F H σ δ _ E _ r hw (fun v F1 H1 d δ1 r1 s1 rep q => ?_) x⟩
  cases d with
  | lst xs =>
    cases rep with
    | lst h3 h4 => exact ⟨_, rfl, ⟨_, .of (r1.sub _ _ h3)⟩, p _ F1 H1 xs δ1 r1 s1 (itOk_list h3 h4) q⟩
  | _ => exact q.elim
def wiStr (w : WF) : WI := fun δ Q E => w δ (fun x δ' => match x with
  | .str z => Q (charsD z) δ'
  | _ => False) E
def wiRng1 (w : WL) : WI := fun δ Q E => w δ (fun xs δ' => match xs with
  | [.int j] => (-(2 ^ 62) ≤ j ∧ j < 2 ^ 62) ∧ Q (rangeD 0 j.toNat) δ'
  | _ => False) E
theorem di_rng1 {w : WL} (h : DA Φ W [e] w) (hm : ∀ i, (Φ.X i).mg "range" = none) (hg : ∀ i, Gl (Φ.X i) "range" := by intro _; rfl) (hs : ∀ i, starEach [e] (Φ.X i).env = [(false, eval e (Φ.X i).env)] := by intro _; rfl) :
    DI Φ W tg (.Call (.Name "range" p) [e] [] pos) (wiRng1 w) := by
  obtain ⟨t, h1, h2⟩ := h
  refine ⟨_, fun i => pi_range1 (hg i) (hm i) (h1 i) (hs i), fun B F H σ δ Q E R r hw p x => h2 B F H σ δ _ E _ r hw (fun vs F1 H1 xs δ1 r1 s1 reps q => ?_) x⟩
  split at q
  · cases reps with
    | cons a b =>
      cases b
      cases a
      exact ⟨_, rfl, q.1.1, q.1.2, p _ F1 H1 _ δ1 r1 s1 (itOk_rng 0 _) q.2⟩
  · exact q.elim
def wiRng2 (w : WL) : WI := fun δ Q E => w δ (fun xs δ' => match xs with
  | [.int i, .int j] => (-(2 ^ 62) ≤ i ∧ i < 2 ^ 62 ∧ -(2 ^ 62) ≤ j ∧ j < 2 ^ 62) ∧ Q (rangeD i (j - i).toNat) δ'
  | _ => False) E
def wiEnum (w : WL) : WI := fun δ Q E => w δ (fun xs δ' => match xs with
  | [.lst ys] => Q (enumD ys) δ'
  | _ => False) E
abbrev WG := D → Dl → (Dl → Prop) → Prop
abbrev WGs := List D → Dl → (Dl → Prop) → Prop
def Sw (ns : List Nat) (σ σ' : St) : Prop := ∀ vs : List Nat, (∀ n ∈ ns, n ∈ vs) → wipe σ' vs = wipe σ vs
theorem wipe_set {σ : St} {n : Nat} {v : V} : ∀ {vs : List Nat}, n ∈ vs → wipe (σ.set n (some v)) vs = wipe σ vs
  | [], h => nomatch h
  | u :: vs, h => by
    show (wipe (σ.set n (some v)) vs).set u none = (wipe σ vs).set u none
    by_cases q : n ∈ vs
    · rw [wipe_set q]
    · have e : n = u := by
        rcases List.mem_cons.mp h with h | h
        · exact h
        · exact absurd h q
      subst e
      have com : ∀ ws : List Nat, n ∉ ws → wipe (σ.set n (some v)) ws = (wipe σ ws).set n (some v) := by
        intro ws
        induction ws with
        | nil => intro _; rfl
        | cons w ws ih =>
          intro hn
          have h1 : n ≠ w := fun z => hn (z ▸ List.mem_cons_self)
          show (wipe (σ.set n (some v)) ws).set w none = ((wipe σ ws).set w none).set n (some v)
          rw [ih fun z => hn (List.mem_cons_of_mem _ z), List.set_comm _ _ h1]
      rw [com vs q, List.set_set]
theorem Sw.set (σ : St) (n : Nat) (v : V) : Sw [n] σ (σ.set n (some v)) := fun vs h => wipe_set (h n List.mem_cons_self)
theorem Sw.refl (σ : St) : Sw [] σ σ := fun _ _ => rfl
theorem Sw.trans {ns ms : List Nat} {σ σ1 σ2 : St} (a : Sw ns σ σ1) (b : Sw ms σ1 σ2) : Sw (ns ++ ms) σ σ2 := fun vs h => (b vs fun n z => h n (List.mem_append_right _ z)).trans (a vs fun n z => h n (List.mem_append_left _ z))
def DG (Φ : Fam) (tg : Expr) (ns : List Nat) (w : WG) : Prop :=
  ∃ g, (∀ i, PG (Φ.X i) tg g) ∧ ∀ (B : Bs) (F H : Hp) (σ : St) (δ : Dl) (d : D) (v : V) (Q : Dl → Prop) (Qh : St → Hp → Prop), RB Φ.K B F H σ δ → Rep Φ.K F v d → w d δ Q →
    (∀ σ' δ', RB Φ.K B F H σ' δ' → Sw ns σ σ' → (∀ b, Ow σ' δ' b → Ow σ δ b) → Q δ' → Qh σ' H) → g v σ H Qh
theorem ow_put {σ : St} {δ : Dl} {i : Nat} {v : V} {x : D} {b : Addr} (hi : i < δ.length) (hl : δ.length = σ.length) (h : Ow (σ.set i (some v)) (δ.set i (some (.d x))) b) : Ow σ δ b := by
  obtain ⟨j, ⟨c, e⟩, hs⟩ := h
  by_cases q : i = j
  · subst q
    rw [List.getElem?_set_self hi] at e
    rcases e with e | e <;> cases e
  · rw [List.getElem?_set_ne q] at e hs
    exact ⟨j, ⟨c, e⟩, hs⟩
def wgN (i : Nat) : WG := fun d δ Q => i < δ.length ∧ Q (δ.set i (some (.d d)))
theorem dg_n (i : Nat) {x : Str} (hN : ∀ j, (Φ.X j).N.Nodup) (hi : ∀ j, (Φ.X j).N[i]? = some x := by intro _; rfl) (hx : ∀ j, Loc (Φ.X j).env.scope x := by intro _; first | exact Or.inl rfl | exact Or.inr rfl)
    (hf : ∀ j, (Φ.X j).fn x = true ∨ (Φ.X j).env.scope.names.lookup x = some .local := by intro _; first | exact .inl rfl | exact .inr rfl) : DG Φ (.Name x pos) [i] (wgN i) :=
  ⟨_, fun j => pg_name (hN j) (hi j) (hx j) (hf j), fun B F H σ δ d v Q Qh r rep hw p => p _ _ (r.put (H0 := H) (sd := .d d) rep hw.1) (.set _ _ _) (fun b => ow_put hw.1 r.len) hw.2⟩
def wgNil : WGs := fun ds δ Q => match ds with
  | [] => Q δ
  | _ => False
def wgCons (w : WG) (u : WGs) : WGs := fun ds δ Q => match ds with
  | d :: r => w d δ (fun δ' => u r δ' Q)
  | [] => False
def wgTup (n : Nat) (u : WGs) : WG := fun d δ Q => match d with
  | .tup ds => ds.length = n ∧ u ds δ Q
  | _ => False
theorem RB.rebase {K : PySem.W.Frag} {B : Bs} {F1 H1 F H : Hp} {σ1 σ : St} {δ1 δ : Dl} (r1 : RB K B F1 H1 σ1 δ1) (r : RB K { B with F := F1 } F H σ δ) : RB K B F H σ δ :=
  ⟨r.sub, r.len, r.dat, r.own, r.par, r.apt, r1.f0.trans r.f0, r.h0, r.hO, fun b o e nk => by
    rcases r.nw b o e nk with ⟨z, q⟩ | q
    · exact r1.nw b z q (by rw [sameOne r.f0 q e]; exact nk)
    · exact .inr q⟩
theorem RB.debase {K : PySem.W.Frag} {B : Bs} {F H : Hp} {σ : St} {δ : Dl} (r : RB K B F H σ δ) : RB K { B with F := F } F H σ δ :=
  ⟨r.sub, r.len, r.dat, r.own, r.par, r.apt, .refl _, r.h0, r.hO, fun b o e _ => .inl ⟨o, e⟩⟩
theorem SR.bF {K : PySem.W.Frag} {B : Bs} {F1 H0 F H : Hp} {σ : St} {δ : Dl} {v : V} : ∀ {sd : SD}, SR K { B with F := F1 } H0 F H σ δ v sd → SR K B H0 F H σ δ v sd
  | .d _, h => h
  | .o _, h => h
  | .p _, h => h
def wFor (wi : WI) (wg : WG) (wb : WS) : WS := fun M E δ => wi δ (fun xs δ1 => ∃ P : Nat → Dl → Prop, P 0 δ1 ∧
  (∀ i d δ, xs[i]? = some d → P i δ → wg d δ (fun δ2 => wb { nx := P (i + 1), rt := M.rt, bk := M.nx, ct := P (i + 1) } E δ2)) ∧ ∀ δ, P xs.length δ → M.nx δ) E
theorem ds_for {iter : Expr} {body : List Stmt} {wi : WI} {ns : List Nat} {wg : WG} {wb : WS} (hp : ∀ i, PassesOwn (model (Φ.X i).prog (Φ.X i).w) (Φ.X i).A (Φ.X i).env (Φ.X i).xe) (hc : ∀ i, (Φ.X i).calm = true) (hi : DI Φ W tg iter wi) (hg : DG Φ tg ns wg) (hb : DSs Φ W body wb)
    (hs : ∀ i x, foldedSetIterable iter (Φ.X i).env x = pure x := by intro _ _; rfl) : DS Φ W (.For tg iter body [] pos) (wFor wi wg wb) := by
  obtain ⟨ti, i1, i2⟩ := hi
  obtain ⟨g, g1, g2⟩ := hg
  obtain ⟨tb, b1, b2⟩ := hb
  refine ⟨_, fun i => ps_for (hp i) (hc i) (i1 i) (g1 i) (b1 i) (hs i), fun B F H σ δ M E D r hw l x => i2 B F H σ δ _ E _ r hw (fun J F1 H1 xs δ1 r1 s1 ok q => ?_) (x σ)⟩
  obtain ⟨P, p0, ps, pd⟩ := q
  refine ⟨fun i m σ' H' => m = xs.length - i ∧ i ≤ xs.length ∧ ∃ F' δ', RB Φ.K { B with F := F1 } F' H' σ' δ' ∧ P i δ', ⟨xs.length, by simp, Nat.zero_le _, F1, δ1, r1.debase, p0⟩, ?_⟩
  rintro i m σ' H' ⟨rfl, hle, F', δ', r', hP⟩
  by_cases hlt : i < xs.length
  · have e : xs[i]? = some xs[i] := List.getElem?_eq_getElem hlt
    refine .inr ⟨ok.go i _ F' H' r'.f0 r'.sub e, fun σ2 H2 => ∃ F2 δ2, RB Φ.K { B with F := F1 } F2 H2 σ2 δ2 ∧ P (i + 1) δ2, fun σ2 H2 ⟨F2, δ2, r2, h2⟩ => ⟨xs.length - (i + 1), by omega, rfl, hlt, F2, δ2, r2, h2⟩, fun y H2 hy => ?_⟩
    obtain ⟨F3, r3, s3, rep⟩ := ok.yld i _ _ F' H' σ' δ' y H2 e r'.f0 r' hy
    refine g2 _ F3 H2 σ' δ' _ y _ _ r3 rep (ps i _ δ' e hP) fun σ4 δ4 r4 _ _ q4 => ?_
    refine b2 { B with F := F1 } F3 H2 σ4 δ4 _ E _ r4 q4 ⟨fun F5 H5 σ5 δ5 r5 q5 => ⟨F5, δ5, r5, q5⟩, fun v F5 H5 σ5 δ5 sd r5 sr q5 => l.rt v F5 H5 σ5 δ5 sd (r1.rebase r5) sr.bF q5, fun F5 H5 σ5 δ5 r5 q5 => l.nx F5 H5 σ5 δ5 (r1.rebase r5) q5, fun F5 H5 σ5 δ5 r5 q5 => ⟨F5, δ5, r5, q5⟩⟩
      fun σ6 F6 H6 δ6 C dd f v y r6 => x σ6 F6 H6 δ6 C dd f v y (r1.rebase r6)
  · have e : i = xs.length := by omega
    subst e
    exact .inl ⟨ok.stop _ F' H' r'.f0 r'.sub (Nat.le_refl _), l.nx F' H' σ' δ' (r1.rebase r') (pd δ' hP)⟩
end
end DL
namespace DL
open PySem L2
def Fam.blk (Φ : Fam) (scope : Scope) : Fam where
  ι := Φ.ι × Shared × Hp × Addr × List (Str × Addr) × List Addr
  X := fun i => (Φ.X i.1).blk i.2.1 i.2.2.1 scope (compEnvC scope i.2.2.2.2.1 i.2.2.2.1 (Φ.X i.1).env) i.2.2.2.2.2
  K := Φ.K
  hK := fun i => Φ.hK i.1
abbrev W0 : WX := fun _ _ _ _ => False
abbrev E00 : XQ := fun _ _ _ _ => False
def wipeD (δ : Dl) : List Nat → Dl
  | [] => δ
  | v :: vs => (wipeD δ vs).set v none
def unblk (δ0 δ : Dl) : List Nat → Dl
  | [] => δ
  | v :: vs => (unblk δ0 δ vs).set v (δ0.getD v none)
def okW (δ : Dl) (vs : List Nat) : Prop := ∀ n ∈ vs, ¬ isOwn δ n
theorem wipeD_len (δ : Dl) : ∀ vs, (wipeD δ vs).length = δ.length
  | [] => rfl
  | v :: vs => by unfold wipeD; rw [List.length_set, wipeD_len δ vs]
theorem unblk_len (δ0 δ : Dl) : ∀ vs, (unblk δ0 δ vs).length = δ.length
  | [] => rfl
  | v :: vs => by unfold unblk; rw [List.length_set, unblk_len δ0 δ vs]
theorem wipeD_get {δ : Dl} {i : Nat} {sd : SD} : ∀ {vs : List Nat}, (wipeD δ vs)[i]? = some (some sd) → δ[i]? = some (some sd) ∧ i ∉ vs
  | [], h => ⟨h, by simp⟩
  | v :: vs, h => by
    unfold wipeD at h
    by_cases q : v = i
    · subst q
      by_cases l : v < (wipeD δ vs).length
      · rw [List.getElem?_set_self l] at h; cases h
      · rw [List.getElem?_eq_none (by simpa using l)] at h; cases h
    · rw [List.getElem?_set_ne q] at h
      obtain ⟨h1, h2⟩ := wipeD_get h
      exact ⟨h1, by simp only [List.mem_cons, not_or]; exact ⟨fun e => q e.symm, h2⟩⟩
theorem unblk_get {δ0 δ : Dl} {i : Nat} {sd : SD} (hl : δ0.length = δ.length) : ∀ {vs : List Nat}, (unblk δ0 δ vs)[i]? = some (some sd) → (i ∈ vs ∧ δ0[i]? = some (some sd)) ∨ (i ∉ vs ∧ δ[i]? = some (some sd))
  | [], h => .inr ⟨by simp, h⟩
  | v :: vs, h => by
    unfold unblk at h
    by_cases q : v = i
    · subst q
      by_cases l : v < (unblk δ0 δ vs).length
      · rw [List.getElem?_set_self l] at h
        refine .inl ⟨List.mem_cons_self, ?_⟩
        have e : δ0.getD v none = some sd := Option.some.inj h
        rw [List.getD_eq_getElem?_getD] at e
        cases z : δ0[v]? with
        | none => rw [z] at e; cases e
        | some u => rw [z] at e; rw [show u = some sd from e]
      · rw [List.getElem?_eq_none (by simpa using l)] at h; cases h
    · rw [List.getElem?_set_ne q] at h
      rcases unblk_get hl h with ⟨h1, h2⟩ | ⟨h1, h2⟩
      · exact .inl ⟨List.mem_cons_of_mem _ h1, h2⟩
      · exact .inr ⟨by simp only [List.mem_cons, not_or]; exact ⟨fun e => q e.symm, h1⟩, h2⟩
theorem wipe_at (τ : St) (i : Nat) : ∀ ws : List Nat, (wipe τ ws)[i]? = if i ∈ ws then (if i < τ.length then some none else none) else τ[i]?
  | [] => by rw [if_neg (by simp)]; rfl
  | w :: ws => by
    show ((wipe τ ws).set w none)[i]? = _
    by_cases q : w = i
    · subst q
      rw [if_pos List.mem_cons_self, List.getElem?_set_self']
      by_cases l : w < τ.length
      · rw [if_pos l, List.getElem?_eq_getElem (by rw [wipe_length]; exact l)]; rfl
      · rw [if_neg l, List.getElem?_eq_none (by rw [wipe_length]; omega)]; rfl
    · rw [List.getElem?_set_ne q, wipe_at τ i ws]
      by_cases m : i ∈ ws
      · rw [if_pos m, if_pos (List.mem_cons_of_mem _ m)]
      · rw [if_neg m, if_neg fun z => (List.mem_cons.mp z).elim (fun z => q z.symm) m]
theorem wipe_idem (τ : St) (ws : List Nat) : wipe (wipe τ ws) ws = wipe τ ws := by
  refine List.ext_getElem? fun i => ?_
  rw [wipe_at (wipe τ ws), wipe_at τ, wipe_length]
  by_cases m : i ∈ ws
  · rw [if_pos m, if_pos m]
  · rw [if_neg m, if_neg m]
theorem wipe_get {σ σ2 : St} {i : Nat} {vs : List Nat} (h : wipe σ2 vs = wipe σ vs) (hi : i ∉ vs) : σ2[i]? = σ[i]? := by
  have g : ∀ (τ : St) (ws : List Nat), i ∉ ws → (wipe τ ws)[i]? = τ[i]? := by
    intro τ ws
    induction ws with
    | nil => intro _; rfl
    | cons w ws ih =>
      intro hn
      have h1 : w ≠ i := fun z => hn (z ▸ List.mem_cons_self)
      show ((wipe τ ws).set w none)[i]? = _
      rw [List.getElem?_set_ne h1, ih fun z => hn (List.mem_cons_of_mem _ z)]
  rw [← g σ2 vs hi, h, g σ vs hi]
section
variable {K : PySem.W.Frag} {B : Bs} {F H : Hp} {σ σ2 : St} {δ δ2 : Dl} {vs : List Nat}
theorem RB.wipe (r : RB K B F H σ δ) (vs : List Nat) : RB K B F H (wipe σ vs) (wipeD δ vs) := by
  have hs : ∀ {i v}, i ∉ vs → σ[i]? = some (some v) → (L2.wipe σ vs)[i]? = some (some v) := fun {i v} h e => by
    have g : ∀ ws : List Nat, i ∉ ws → (L2.wipe σ ws)[i]? = σ[i]? := by
      intro ws
      induction ws with
      | nil => intro _; rfl
      | cons w ws ih =>
        intro hn
        have h1 : w ≠ i := fun z => hn (z ▸ List.mem_cons_self)
        show ((L2.wipe σ ws).set w none)[i]? = _
        rw [List.getElem?_set_ne h1, ih fun z => hn (List.mem_cons_of_mem _ z)]
    rw [g vs h]; exact e
  have io : ∀ {i}, isOwn (wipeD δ vs) i → isOwn δ i := fun {i} ⟨c, e⟩ => ⟨c, by
    rcases e with e | e
    · exact .inl (wipeD_get e).1
    · exact .inr (wipeD_get e).1⟩
  refine ⟨r.sub, by rw [wipeD_len, wipe_length]; exact r.len, fun i x e => ?_, fun i c e => ?_, fun i c e => ?_, fun i j a h1 h2 h3 h4 => r.apt i j a (io h1) (io h2) (wipe_some h3).1 (wipe_some h4).1, r.f0, r.h0, r.hO, r.nw⟩
  · obtain ⟨e1, e2⟩ := wipeD_get e
    obtain ⟨v, h1, h2⟩ := r.dat i x e1
    exact ⟨v, hs e2 h1, h2⟩
  · obtain ⟨e1, e2⟩ := wipeD_get e
    obtain ⟨v, h1, h2⟩ := r.own i c e1
    exact ⟨v, hs e2 h1, h2⟩
  · obtain ⟨e1, e2⟩ := wipeD_get e
    obtain ⟨v, h1, h2⟩ := r.par i c e1
    exact ⟨v, hs e2 h1, h2⟩
theorem RB.unblk {F0 H0 : Hp} (r0 : RB K B F0 H0 σ δ) (hf : Same F0 F) (r : RB K B F H σ2 δ2) (hw : L2.wipe σ2 vs = L2.wipe σ vs) (ok : okW δ vs) : RB K B F H σ (unblk δ δ2 vs) := by
  have hl : δ.length = δ2.length := by
    have := congrArg List.length hw
    rw [wipe_length, wipe_length] at this
    rw [r0.len, r.len]; exact this.symm
  have io : ∀ {i}, isOwn (DL.unblk δ δ2 vs) i → i ∉ vs ∧ isOwn δ2 i := fun {i} ⟨c, e⟩ => by
    rcases e with e | e
    · rcases unblk_get hl e with ⟨h1, h2⟩ | ⟨h1, h2⟩
      · exact absurd ⟨c, .inl h2⟩ (ok i h1)
      · exact ⟨h1, c, .inl h2⟩
    · rcases unblk_get hl e with ⟨h1, h2⟩ | ⟨h1, h2⟩
      · exact absurd ⟨c, .inr h2⟩ (ok i h1)
      · exact ⟨h1, c, .inr h2⟩
  refine ⟨r.sub, by rw [unblk_len, ← hl]; exact r0.len, fun i x e => ?_, fun i c e => ?_, fun i c e => ?_, fun i j a h1 h2 h3 h4 => ?_, r.f0, r.h0, r.hO, r.nw⟩
  · rcases unblk_get hl e with ⟨h1, h2⟩ | ⟨h1, h2⟩
    · obtain ⟨v, e1, e2⟩ := r0.dat i x h2
      exact ⟨v, e1, e2.mono hf⟩
    · obtain ⟨v, e1, e2⟩ := r.dat i x h2
      exact ⟨v, by rw [← wipe_get hw h1]; exact e1, e2⟩
  · obtain ⟨h1, _⟩ := io ⟨c, .inl e⟩
    rcases unblk_get hl e with ⟨h3, _⟩ | ⟨_, h2⟩
    · exact absurd h3 h1
    · obtain ⟨v, e1, e2⟩ := r.own i c h2
      exact ⟨v, by rw [← wipe_get hw h1]; exact e1, e2⟩
  · obtain ⟨h1, _⟩ := io ⟨c, .inr e⟩
    rcases unblk_get hl e with ⟨h3, _⟩ | ⟨_, h2⟩
    · exact absurd h3 h1
    · obtain ⟨v, e1, e2⟩ := r.par i c h2
      exact ⟨v, by rw [← wipe_get hw h1]; exact e1, e2⟩
  · obtain ⟨a1, a2⟩ := io h1
    obtain ⟨b1, b2⟩ := io h2
    exact r.apt i j a a2 b2 (by rw [wipe_get hw a1]; exact h3) (by rw [wipe_get hw b1]; exact h4)
theorem ow_unblk (hl : δ.length = δ2.length) (hw : L2.wipe σ2 vs = L2.wipe σ vs) (ok : okW δ vs) {b : Addr} (h : Ow σ (unblk δ δ2 vs) b) : Ow σ2 δ2 b := by
  obtain ⟨i, ⟨c, e⟩, hs⟩ := h
  rcases e with e | e
  · rcases unblk_get hl e with ⟨h1, h2⟩ | ⟨h1, h2⟩
    · exact absurd ⟨c, .inl h2⟩ (ok i h1)
    · exact ⟨i, ⟨c, .inl h2⟩, by rw [wipe_get hw h1]; exact hs⟩
  · rcases unblk_get hl e with ⟨h1, h2⟩ | ⟨h1, h2⟩
    · exact absurd ⟨c, .inr h2⟩ (ok i h1)
    · exact ⟨i, ⟨c, .inr h2⟩, by rw [wipe_get hw h1]; exact hs⟩
theorem ow_wipe {b : Addr} (h : Ow (L2.wipe σ vs) (wipeD δ vs) b) : Ow σ δ b := by
  obtain ⟨i, ⟨c, e⟩, hs⟩ := h
  refine ⟨i, ⟨c, ?_⟩, (wipe_some hs).1⟩
  rcases e with e | e
  · exact .inl (wipeD_get e).1
  · exact .inr (wipeD_get e).1
theorem Stp.poke {F' H' : Hp} {δ' : Dl} {p : Addr} {ho : HO} (s : Stp σ δ δ' F H F' H') (hp : H p = none) : Stp σ δ δ' F H F' (upd H' p ho) :=
  ⟨s.f, fun b o e n => by rw [upd_ne (ne_of_none e hp)]; exact s.h b o e n, s.n, s.o, fun b o e => by
    obtain ⟨o', e'⟩ := s.k b o e
    exact ⟨o', by rw [upd_ne (ne_of_none e hp)]; exact e'⟩⟩
theorem SR.step' {H0 F' H' : Hp} {δ' : Dl} {v : V} : ∀ {sd : SD}, SR K B H0 F H σ δ v sd → Stp σ δ δ' F H F' H' → SR K B H0 F' H' σ δ' v sd
  | .d _, h, s => Rep.mono s.f h
  | .o _, ⟨a, e, h, n, b, z⟩, s => ⟨a, e, h.step s n, fun q => n (s.o a q), b, z⟩
  | .p _, h, _ => h.elim
theorem RB.poke {p : Addr} {ho : HO} (r : RB K B F H σ δ) (hF : F p = none) (hn : ¬ Ow σ δ p) (hb : B.H p = none) : RB K B F (upd H p ho) σ δ := by
  have ka : ∀ {a c}, Ow σ δ a → OwnA K F H a c → OwnA K F (upd H p ho) a c := fun {a c} w ⟨h1, u, h2, h3⟩ => ⟨h1, u, by rw [upd_ne (fun z => hn (by rw [← z]; exact w))]; exact h2, h3⟩
  refine ⟨fun b o e => by rw [upd_ne (ne_of_none e hF)]; exact r.sub _ _ e, r.len, r.dat, fun i c e => let ⟨a, h1, h2, h3⟩ := r.own i c e; ⟨a, h1, ka ⟨i, ⟨c, .inl e⟩, h1⟩ h2, h3⟩, fun i c e => let ⟨a, h1, h2, h3⟩ := r.par i c e; ⟨a, h1, ka ⟨i, ⟨c, .inr e⟩, h1⟩ h2, h3⟩, r.apt, r.f0,
    fun b o e n => by rw [upd_ne (ne_of_none e hb)]; exact r.h0 b o e n, fun b hB => ?_, r.nw⟩
  obtain ⟨h1, ⟨o, h2⟩, u, h3⟩ := r.hO b hB
  exact ⟨h1, ⟨o, by rw [upd_ne (ne_of_none h3 hb)]; exact h2⟩, u, h3⟩
end
section
variable {Φ : Fam} {W : WX} {elt tg iter : Expr} {ifs : List Expr} {scope : Scope} {own : List (Str × Nat)} {pos : Pos}
def DTs (Φ : Fam) (W : WX) (ifs : List Expr) (w : WT) : Prop :=
  ∃ t, (∀ i, PTs (Φ.X i) ifs t) ∧ ∀ (B : Bs) (F H : Hp) (σ : St) (δ : Dl) (Q : Bool → Dl → Prop) (E : XQ) (Qh : Bool → Hp → Prop), RB Φ.K B F H σ δ → w δ Q E → PostT Φ.K B σ δ F H Q Qh → XL Φ.K B W σ E → t σ H Qh
def wYes : WT := fun δ Q _ => Q true δ
theorem dts_nil : DTs Φ W [] wYes := ⟨_, fun _ => pts_nil, fun B F H σ δ Q E Qh r hw p _ => p true F H δ r .refl hw⟩
def wLc (wi : WI) (wg : WG) (wt : WT) (we : WF) (vs : List Nat) : WE := fun δ Q E => wi δ (fun xs δ1 => ∃ P : Nat → List D → Dl → Prop, P 0 [] δ1 ∧
  (∀ i d ys δ', xs[i]? = some d → P i ys δ' → okW δ' vs ∧ wg d (wipeD δ' vs) (fun δ2 => wt δ2 (fun b δ3 => if b = true then we δ3 (fun y δ4 => ys.length < sizeLine ∧ P (i + 1) (ys ++ [y]) (unblk δ' δ4 vs)) E00 else P (i + 1) ys (unblk δ' δ3 vs)) E00)) ∧
  ∀ ys δ', P xs.length ys δ' → Q (.o (.l ys)) δ') E
theorem lc_run {wi : WI} {ns : List Nat} {wg : WG} {wt : WT} {we : WF} {ti : TI} {g : TG} {tt : TT} {te : TE} (hns : ∀ n ∈ ns, n ∈ own.map (·.2))
    (i2 : ∀ (B : Bs) (F H : Hp) (σ : St) (δ : Dl) (Q : List D → Dl → Prop) (E : XQ) (R : It → Hp → Prop), RB Φ.K B F H σ δ → wi δ Q E → (∀ J F' H' xs δ', RB Φ.K B F' H' σ δ' → Stp σ δ δ' F H F' H' → ItOk Φ.K J F' xs → Q xs δ' → R J H') → XL Φ.K B W σ E → ti σ H R)
    (g2 : ∀ (B : Bs) (F H : Hp) (σ : St) (δ : Dl) (d : D) (v : V) (Q : Dl → Prop) (Qh : St → Hp → Prop), RB Φ.K B F H σ δ → Rep Φ.K F v d → wg d δ Q → (∀ σ' δ', RB Φ.K B F H σ' δ' → Sw ns σ σ' → (∀ b, Ow σ' δ' b → Ow σ δ b) → Q δ' → Qh σ' H) → g v σ H Qh)
    (t2 : ∀ (B : Bs) (F H : Hp) (σ : St) (δ : Dl) (Q : Bool → Dl → Prop) (E : XQ) (Qh : Bool → Hp → Prop), RB Φ.K B F H σ δ → wt δ Q E → PostT Φ.K B σ δ F H Q Qh → XL Φ.K B W0 σ E → tt σ H Qh)
    (e2 : ∀ (B : Bs) (F H : Hp) (σ : St) (δ : Dl) (Q : D → Dl → Prop) (E : XQ) (Qh : VK), RB Φ.K B F H σ δ → we δ Q E → PostF Φ.K B σ δ F H Q Qh → XL Φ.K B W0 σ E → te σ H Qh) :
    ∀ (B : Bs) (F H : Hp) (σ : St) (δ : Dl) (Q : SD → Dl → Prop) (E : XQ) (Qh : VK), RB Φ.K B F H σ δ → wLc wi wg wt we (own.map (·.2)) δ Q E → Post Φ.K B σ δ F H Q Qh → XL Φ.K B W σ E → tLc ti g tt te (own.map (·.2)) σ H Qh := by
  intro B F H σ δ Q E Qh r hw p x
  refine i2 B F H σ δ _ E _ r hw (fun J F1 H1 xs δ1 r1 s1 ok q => ?_) x
  obtain ⟨P, p0, ps, pd⟩ := q
  intro D hD
  have x0 : ∀ (B' : Bs) σ', XL Φ.K B' W0 σ' E00 := fun _ _ _ _ _ _ _ _ _ _ _ _ _ _ z => z
  refine ⟨fun i m H' => m = xs.length - i ∧ i ≤ xs.length ∧ ∃ F' δ' ys, RB Φ.K { B with F := F1 } F' H' σ δ' ∧ Stp σ δ1 δ' F1 H1 F' H' ∧ SR Φ.K { B with F := F1 } H1 F' H' σ δ' (.ref D) (.o (.l ys)) ∧ P i ys δ',
    ⟨xs.length, by simp, Nat.zero_le _, F1, δ1, [], r1.debase.lay hD, .lay hD, ⟨D, rfl, ⟨r1.fnone hD, _, upd_same, .nil⟩, r1.now hD, r1.hnone hD, hD⟩, p0⟩, ?_⟩
  rintro i m H' ⟨rfl, hle, F', δ', ys, r', s', sr, hP⟩
  by_cases hlt : i < xs.length
  · have e : xs[i]? = some xs[i] := List.getElem?_eq_getElem hlt
    refine .inr ⟨ok.go i _ F' H' r'.f0 r'.sub e, fun H2 => ∃ F2 δ2 ys2, RB Φ.K { B with F := F1 } F2 H2 σ δ2 ∧ Stp σ δ1 δ2 F1 H1 F2 H2 ∧ SR Φ.K { B with F := F1 } H1 F2 H2 σ δ2 (.ref D) (.o (.l ys2)) ∧ P (i + 1) ys2 δ2,
      fun H2 ⟨F2, δ2, ys2, h1, h2, h3, h4⟩ => ⟨xs.length - (i + 1), by omega, rfl, hlt, F2, δ2, ys2, h1, h2, h3, h4⟩, fun y H2 hy => ?_⟩
    obtain ⟨F3, r3, s3, rep⟩ := ok.yld i _ _ F' H' σ δ' y H2 e r'.f0 r' hy
    obtain ⟨okw, hw2⟩ := ps i _ ys δ' e hP
    have sr3 := SR.step' sr s3
    have r3w := r3.wipe (own.map (·.2))
    refine g2 _ F3 H2 _ _ _ y _ _ r3w rep hw2 fun σ4 δ4 r4 w4 o4 q4 => ?_
    have hwipe : wipe σ4 (own.map (·.2)) = wipe σ (own.map (·.2)) := (w4 _ hns).trans (wipe_idem σ _)
    refine ⟨hwipe, ?_⟩
    have ow4 : ∀ b, Ow σ4 δ4 b → Ow σ δ' b := fun b z => ow_wipe (o4 b z)
    have fin : ∀ {F6 H6 : Hp} {δ6 : Dl}, RB Φ.K { B with F := F1 } F6 H6 σ4 δ6 → Stp σ4 δ4 δ6 F3 H2 F6 H6 → RB Φ.K { B with F := F1 } F6 H6 σ (unblk δ' δ6 (own.map (·.2))) ∧ Stp σ δ' (unblk δ' δ6 (own.map (·.2))) F3 H2 F6 H6 := fun {F6 H6 δ6} r6 s6 => by
      have hl : δ'.length = δ6.length := by
        have := congrArg List.length hwipe
        rw [wipe_length, wipe_length] at this
        rw [r3.len, r6.len]; exact this.symm
      exact ⟨r3.unblk s6.f r6 hwipe okw, ⟨s6.f, fun b o e n => s6.h b o e fun z => n (ow4 b z), fun b o e nk => (s6.n b o e nk).imp id fun z => z.imp id fun z => ow4 b z, fun b z => ow4 b (s6.o b (ow_unblk hl hwipe okw z)), s6.k⟩⟩
    refine t2 _ F3 H2 σ4 δ4 _ E00 _ r4 q4 (fun b F5 H5 δ5 r5 s5 q5 => ?_) (x0 _ _)
    cases b with
    | false =>
      rw [if_neg Bool.false_ne_true] at q5 ⊢
      obtain ⟨r6, s6⟩ := fin r5 s5
      exact ⟨F5, _, ys, r6, (s'.trans s3).trans s6, SR.step' sr3 s6, q5⟩
    | true =>
      rw [if_pos rfl] at q5 ⊢
      refine e2 _ F5 H5 σ4 δ5 _ E00 _ r5 q5 (fun z F6 H6 u δ6 r6 s6 rep6 q6 => ?_) (x0 _ _)
      obtain ⟨r7, s7⟩ := fin r6 (s5.trans s6)
      have sr7 := SR.step' sr3 s7
      obtain ⟨a, ea, ⟨o1, ho, o2, o3⟩, n1, n2, n3⟩ := sr7
      cases ea
      obtain ⟨acc, rfl, o4⟩ := o3.lst
      refine ⟨acc, o2, by rw [o4.len]; exact q6.1, F6, _, ys ++ [u], r7.poke o1 n1 n2, ((s'.trans s3).trans s7).poke n3, ⟨D, rfl, ⟨o1, _, upd_same, o4.app (.cons rep6 .nil)⟩, n1, n2, n3⟩, q6.2⟩
  · have e : i = xs.length := by omega
    subst e
    refine .inl ⟨ok.stop _ F' H' r'.f0 r'.sub (Nat.le_refl _), ?_⟩
    exact p (.ref D) F' H' (.o (.l ys)) δ' (r1.rebase r') (s1.trans s') ((sr.bF).old fun _ z => s1.past z) (pd ys δ' hP)
theorem de_lc {wi : WI} {ns : List Nat} {wg : WG} {wt : WT} {we : WF} (own : List (Str × Nat)) (hc : ∀ i, (Φ.X i).calm = true) (hN : ∀ i, (Φ.X i).N.Nodup) (hi : DI Φ W tg iter wi) (ok : ∀ i, BlkOk (Φ.X i).N (Φ.X i).env.scope scope own)
    (hg : DG (Φ.blk scope) tg ns wg) (ht : DTs (Φ.blk scope) W0 ifs wt) (he : DF (Φ.blk scope) W0 elt we) (hns : ∀ n ∈ ns, n ∈ own.map (·.2) := by decide) (hs : ∀ i x, foldedSetIterable iter (Φ.X i).env x = pure x := by intro _ _; rfl) :
    DE Φ W (.ListComp elt [⟨tg, iter, ifs, 0⟩] scope pos) (wLc wi wg wt we (own.map (·.2))) := by
  obtain ⟨ti, i1, i2⟩ := hi
  obtain ⟨g, g1, g2⟩ := hg
  obtain ⟨tt, t1, t2⟩ := ht
  obtain ⟨te, e1, e2⟩ := he
  exact ⟨_, fun i => pe_lc (hc i) (hN i) (i1 i) (ok i) (fun s H C cl fp => g1 (i, s, H, C, cl, fp)) (fun s H C cl fp => t1 (i, s, H, C, cl, fp)) (fun s H C cl fp => e1 (i, s, H, C, cl, fp)) (hs i), lc_run hns i2 g2 t2 e2⟩
end
end DL
namespace DL
open PySem L2
open PyProof.Rows (envOfC)
def Fam.one (X : Cx) : Fam := ⟨Unit, fun _ => X, X.K, fun _ => rfl⟩
def backD : Dl → Dl → Option Dl
  | [], _ => some []
  | some (.p _) :: α, some (.p c) :: δ => (backD α δ).map (some (.p c) :: ·)
  | some (.p _) :: _, _ => none
  | x :: α, _ :: δ => (backD α δ).map (x :: ·)
  | _ :: _, [] => none
theorem backD_len : ∀ {α δ α' : Dl}, backD α δ = some α' → α'.length = α.length
  | [], _, _, h => by simp only [backD] at h; cases h; rfl
  | some (.p _) :: α, some (.p c) :: δ, _, h => by
    simp only [backD] at h
    cases e : backD α δ with
    | none => rw [e] at h; cases h
    | some β => rw [e] at h; cases h; simp [backD_len e]
  | some (.p _) :: α, none :: δ, _, h => by simp only [backD] at h; cases h
  | some (.p _) :: α, some (.d _) :: δ, _, h => by simp only [backD] at h; cases h
  | some (.p _) :: α, some (.o _) :: δ, _, h => by simp only [backD] at h; cases h
  | some (.p _) :: α, [], _, h => by simp only [backD] at h; cases h
  | none :: α, y :: δ, _, h => by
    simp only [backD] at h
    cases e : backD α δ with
    | none => rw [e] at h; cases h
    | some β => rw [e] at h; cases h; simp [backD_len e]
  | some (.d x) :: α, y :: δ, _, h => by
    simp only [backD] at h
    cases e : backD α δ with
    | none => rw [e] at h; cases h
    | some β => rw [e] at h; cases h; simp [backD_len e]
  | some (.o x) :: α, y :: δ, _, h => by
    simp only [backD] at h
    cases e : backD α δ with
    | none => rw [e] at h; cases h
    | some β => rw [e] at h; cases h; simp [backD_len e]
  | none :: α, [], _, h => by simp only [backD] at h; cases h
  | some (.d x) :: α, [], _, h => by simp only [backD] at h; cases h
  | some (.o x) :: α, [], _, h => by simp only [backD] at h; cases h
theorem backD_get : ∀ {α δ α' : Dl} {i : Nat} {sd : SD}, backD α δ = some α' → α'[i]? = some (some sd) → (∃ c, sd = .p c ∧ δ[i]? = some (some (.p c)) ∧ ∃ c0, α[i]? = some (some (.p c0))) ∨ ((∀ c, sd ≠ .p c) ∧ α[i]? = some (some sd))
  | [], _, _, _, _, h, e => by simp only [backD] at h; cases h; simp at e
  | some (.p c0) :: α, some (.p c) :: δ, _, i, sd, h, e => by
    simp only [backD] at h
    cases q : backD α δ with
    | none => rw [q] at h; cases h
    | some β =>
      rw [q] at h; cases h
      cases i with
      | zero => cases e; exact .inl ⟨c, rfl, rfl, c0, rfl⟩
      | succ i => exact backD_get (i := i) q e
  | some (.p _) :: α, none :: δ, _, _, _, h, _ => by simp only [backD] at h; cases h
  | some (.p _) :: α, some (.d _) :: δ, _, _, _, h, _ => by simp only [backD] at h; cases h
  | some (.p _) :: α, some (.o _) :: δ, _, _, _, h, _ => by simp only [backD] at h; cases h
  | some (.p _) :: α, [], _, _, _, h, _ => by simp only [backD] at h; cases h
  | none :: α, y :: δ, _, i, sd, h, e => by
    simp only [backD] at h
    cases q : backD α δ with
    | none => rw [q] at h; cases h
    | some β =>
      rw [q] at h; cases h
      cases i with
      | zero => cases e
      | succ i => exact backD_get (i := i) q e
  | some (.d x) :: α, y :: δ, _, i, sd, h, e => by
    simp only [backD] at h
    cases q : backD α δ with
    | none => rw [q] at h; cases h
    | some β =>
      rw [q] at h; cases h
      cases i with
      | zero => cases e; exact .inr ⟨fun c z => (nomatch z), rfl⟩
      | succ i => exact backD_get (i := i) q e
  | some (.o x) :: α, y :: δ, _, i, sd, h, e => by
    simp only [backD] at h
    cases q : backD α δ with
    | none => rw [q] at h; cases h
    | some β =>
      rw [q] at h; cases h
      cases i with
      | zero => cases e; exact .inr ⟨fun c z => (nomatch z), rfl⟩
      | succ i => exact backD_get (i := i) q e
  | none :: α, [], _, _, _, h, _ => by simp only [backD] at h; cases h
  | some (.d x) :: α, [], _, _, _, h, _ => by simp only [backD] at h; cases h
  | some (.o x) :: α, [], _, _, _, h, _ => by simp only [backD] at h; cases h
def startD (N : List Str) (α : Dl) : Dl := α ++ List.replicate (N.length - α.length) none
def finD (α : Dl) (Q : SD → Dl → Prop) : SD → Dl → Prop := fun sd δ => match backD α δ with
  | some α' => Q sd α'
  | none => False
def finE (α : Dl) (E : XQ) : XQ := fun C f x δ => match backD α δ with
  | some α' => E C f x α'
  | none => False
section
variable {K : PySem.W.Frag} {F H F' H' : Hp} {O : List Addr} {vs : List V} {α : Dl}
theorem RB.entry {B : Bs} (r : RB K B F H (vs.map some) α) {N : List Str} (hl : vs.length ≤ N.length) : RB K B F H (L2.start N vs) (startD N α) := by
  have la : α.length = vs.length := by rw [r.len, List.length_map]
  have gs : ∀ {i v}, (vs.map some)[i]? = some (some v) → (L2.start N vs)[i]? = some (some v) := fun {i v} e => by
    unfold L2.start
    rw [List.getElem?_append_left ((List.getElem?_eq_some_iff.mp e).1)]
    exact e
  have gs' : ∀ {i v}, (L2.start N vs)[i]? = some (some v) → (vs.map some)[i]? = some (some v) := fun {i v} e => by
    unfold L2.start at e
    by_cases q : i < (vs.map some).length
    · rwa [List.getElem?_append_left q] at e
    · rw [List.getElem?_append_right (by omega), List.getElem?_replicate] at e
      split at e <;> cases e
  have gd : ∀ {i sd}, (startD N α)[i]? = some (some sd) → α[i]? = some (some sd) := fun {i sd} e => by
    unfold startD at e
    by_cases q : i < α.length
    · rwa [List.getElem?_append_left q] at e
    · rw [List.getElem?_append_right (by omega), List.getElem?_replicate] at e
      split at e <;> cases e
  have io : ∀ {i}, isOwn (startD N α) i → isOwn α i := fun {i} ⟨c, e⟩ => ⟨c, e.imp gd gd⟩
  refine ⟨r.sub, ?_, fun i x e => let ⟨v, h1, h2⟩ := r.dat i x (gd e); ⟨v, gs h1, h2⟩, fun i c e => let ⟨v, h1, h2⟩ := r.own i c (gd e); ⟨v, gs h1, h2⟩, fun i c e => let ⟨v, h1, h2⟩ := r.par i c (gd e); ⟨v, gs h1, h2⟩,
    fun i j a h1 h2 h3 h4 => r.apt i j a (io h1) (io h2) (gs' h3) (gs' h4), r.f0, r.h0, r.hO, r.nw⟩
  unfold startD L2.start
  rw [List.length_append, List.length_append, List.length_replicate, List.length_replicate, List.length_map, la]
theorem RB.finish {σ : St} {δ α' : Dl} (r0 : RB K ⟨F, H, O, vs.map some⟩ F H (vs.map some) α) (no : ∀ (i : Nat) (c : Cn), α[i]? ≠ some (some (.o c))) (r : RB K ⟨F, H, O, vs.map some⟩ F' H' σ δ) (h : backD α δ = some α') : RB K ⟨F, H, O, vs.map some⟩ F' H' (vs.map some) α' := by
  have pp : ∀ {i : Nat} {c : Cn}, α'[i]? = some (some (.p c)) → δ[i]? = some (some (.p c)) := fun {i c} e => by
    rcases backD_get h e with ⟨c', e1, e2, _⟩ | ⟨e1, _⟩
    · cases e1; exact e2
    · exact absurd rfl (e1 c)
  have po : ∀ {i : Nat} {c : Cn}, α'[i]? = some (some (.o c)) → False := fun {i c} e => by
    rcases backD_get h e with ⟨c', e1, e2, _⟩ | ⟨_, e1⟩
    · cases e1
    · exact no i c e1
  have io : ∀ {i : Nat}, isOwn α' i → ∃ c, α'[i]? = some (some (.p c)) := fun {i} ⟨c, e⟩ => by
    rcases e with e | e
    · exact (po e).elim
    · exact ⟨c, e⟩
  refine ⟨r.sub, by rw [backD_len h]; exact r0.len, fun i x e => ?_, fun i c e => (po e).elim, fun i c e => ?_, fun i j a h1 h2 h3 h4 => ?_, r.f0, r.h0, r.hO, r.nw⟩
  · rcases backD_get h e with ⟨c', e1, e2, _⟩ | ⟨_, e1⟩
    · cases e1
    · obtain ⟨v, h1, h2⟩ := r0.dat i x e1
      exact ⟨v, h1, h2.mono r.f0⟩
  · obtain ⟨a, h1, h2, h3, h4⟩ := r.par i c (pp e)
    exact ⟨a, h4, h2, h3, h4⟩
  · obtain ⟨c, e1⟩ := io h1
    obtain ⟨c2, e2⟩ := io h2
    obtain ⟨a1, q1, _, _, q2⟩ := r.par i c (pp e1)
    obtain ⟨a2, q3, _, _, q4⟩ := r.par j c2 (pp e2)
    have z1 : a1 = a := by
      have : (some (some (V.ref a1)) : Option (Option V)) = some (some (V.ref a)) := q2.symm.trans h3
      cases this; rfl
    have z2 : a2 = a := by
      have : (some (some (V.ref a2)) : Option (Option V)) = some (some (V.ref a)) := q4.symm.trans h4
      cases this; rfl
    subst z1; subst z2
    exact r.apt i j _ ⟨c, .inr (pp e1)⟩ ⟨c2, .inr (pp e2)⟩ q1 q3
theorem SR.finish {σ : St} {δ α' : Dl} {v : V} (no : ∀ (i : Nat) (c : Cn), α[i]? ≠ some (some (.o c))) (hb : backD α δ = some α') (r' : RB K ⟨F, H, O, vs.map some⟩ F' H' (vs.map some) α') : ∀ {sd : SD}, SR K ⟨F, H, O, vs.map some⟩ H F' H' σ δ v sd → SR K ⟨F, H, O, vs.map some⟩ H F' H' (vs.map some) α' v sd
  | .d _, h => h
  | .p _, h => h.elim
  | .o _, ⟨a, e, o, n, b, z⟩ => by
    refine ⟨a, e, o, fun q => ?_, b, z⟩
    obtain ⟨i, ⟨c, q⟩, hs⟩ := q
    rcases q with q | q
    · rcases backD_get hb q with ⟨c', e1, e2, _⟩ | ⟨_, e1⟩
      · cases e1
      · exact no i c e1
    · obtain ⟨a1, q1, _, q3, _⟩ := r'.par i c q
      have z1 : a1 = a := by
        have : (some (some (V.ref a1)) : Option (Option V)) = some (some (V.ref a)) := q1.symm.trans hs
        cases this; rfl
      obtain ⟨_, _, u, q5⟩ := r'.hO a1 q3
      rw [z1] at q5
      have b' : H a = none := b
      have q5' : H a = some u := q5
      rw [b'] at q5'; cases q5'
end
section
variable {P : Program} {w : World} {K : PySem.W.Frag} {mg : Str → Option Value} {base : Heap}
end
end DL
namespace DL
open PySem L2
def tyName : D → Option String
  | .non => some "NoneType"
  | .bl _ => some "bool"
  | .int _ => some "int"
  | .str _ => some "str"
  | .lst _ => some "list"
  | .tup _ => some "tuple"
  | .dic _ => some "dict"
  | .dct _ => some "dict"
  | _ => none
section
variable {K : PySem.W.Frag} {F H : Hp} {v : V}
theorem PR.ty {d : D} {t : String} (s : Same F H) (r : PR K F H v d) (h : tyName d = some t) : TyX K H v (.type t) := by
  have fz : ∀ {a c}, OwnA K F H a c → tyName c.fz = some t → TyX K H (.ref a) (.type t) := fun {a c} ⟨_, ho, h2, h3⟩ e => by
    cases c with
    | l xs => obtain ⟨vs, rfl, _⟩ := h3.lst; cases e; exact .base (.lst h2)
    | k xs => obtain ⟨vs, rfl, _⟩ := h3.dK; cases e; exact .base (.dK h2)
    | t xs => obtain ⟨vs, rfl, _⟩ := h3.dT; cases e; exact .base (.dT h2)
    | ob C xs => cases e
  rcases r with r | ⟨a, c, rfl, rfl, o⟩
  · cases r with
    | non => cases h; exact .base .non
    | bl b => cases h; exact .base (.bl b)
    | int b => cases h; exact .base (.int b)
    | str b => cases h; exact .base (.str b)
    | lst h1 h2 => cases h; exact .base (.lst (s _ _ h1))
    | tup h1 h2 => cases h; exact .base (.tup (s _ _ h1))
    | dic h1 h2 => cases h; exact .base (.dK (s _ _ h1))
    | dct h1 h2 => cases h; exact .base (.dT (s _ _ h1))
    | obj h1 h2 => cases h
    | scr n h1 => cases h
    | vv v => cases h
    | exc h1 h2 => cases h
    | «at» h1 => cases h
    | err h1 h2 h3 => cases h
  · exact fz o h
end
def isiD (T : String) (x : D) : Option Bool := match tyName x with
  | some t => kitB t T
  | none => none
def sIsi (T : String) : S1 := fun x Q => match isiD T x with
  | some b => Q (.d (.bl b))
  | none => False
section
variable {Φ : Fam} {W : WX} {e : Expr} {pos p p2 : Pos} {x : Str}
end
def encD (d : D) : PyData := (toP d).getD .none
def leD : D → D → Bool := PySem.W.dataLe false encD
section
variable {X : Cx} {Φ : Fam}
def sSorted : S1 := fun x Q => match x with
  | .lst ds => (∀ d ∈ ds, eqOk d = true) ∧ PySem.W.AllAlike (ds.map encD) ∧ PySem.W.Sortable (ds.map encD) ∧ Q (.o (.l (ds.mergeSort leD)))
  | _ => False
end
def tyOk (T : String) : D → Prop
  | .str _ => T = "str"
  | .lst _ => T = "list"
  | .dic _ => T = "dict"
  | _ => False
def wMet (T : String) (s : S2) (wa wb : WO) : WE := fun δ Q E => wa δ (fun o δ1 => (∃ x, view δ1 o = some x ∧ tyOk T x) ∧ wb δ1 (fun o' δ2 => match view δ2 o, view δ2 o' with
  | some x, some y => s x y (fun sd => Q sd δ2)
  | _, _ => False) E) E
section
variable {Φ : Fam} {W : WX} {o e : Expr} {cpos apos : Pos} {name : Str} {T id : String}
def sIndex : S2 := fun x y Q => match x, y with
  | .lst xs, .str z => match strs? xs with
    | some zs => z ∈ zs ∧ Q (.d (.int (zs.idxOf z : Nat)))
    | none => False
  | .lst xs, .int z => match ints? xs with
    | some zs => z ∈ zs ∧ Q (.d (.int (zs.idxOf z : Nat)))
    | none => False
  | _, _ => False
def sJoin : S2 := fun x y Q => match x, y with
  | .str a, .lst xs => match strs? xs with
    | some zs => (zs.map (·.length)).sum + zs.length * a.length ≤ 16777216 ∧ Q (.d (.str (Txt.join a zs)))
    | none => False
  | _, _ => False
end
section
variable {Φ : Fam} {W : WX} {e : Expr} {pos cpos apos p2 : Pos} {x : Str}
def wApp (n : Nat) (w : WF) : WE := fun δ Q E => (∃ xs, ownOf δ n = some (.l xs)) ∧ w δ (fun y δ1 => match ownOf δ1 n with
  | some (.l xs) => xs.length < sizeLine ∧ Q (.d .non) (keepKind δ1 n (.l (xs ++ [y])))
  | _ => False) E
def wPut (n : Nat) (we wi : WF) : WS := fun M E δ => we δ (fun y δ1 => (∃ c, ownOf δ1 n = some c) ∧ wi δ1 (fun i δ2 => match i with
  | .int i => match ownOf δ2 n with
    | some (.l xs) => match ixN xs.length i with
      | some j => M.nx (keepKind δ2 n (.l (xs.set j y)))
      | none => False
    | _ => False
  | _ => False) E) E
theorem ds_put (n : Nat) {i : Expr} {tpos : Pos} {we wi : WF} (he : DF Φ W e we) (hi : DF Φ W i wi) (hN : ∀ j, (Φ.X j).N[n]? = some x := by intro _; rfl) (hv : ∀ j, Vis (Φ.X j).env.scope x := by intro _; first | exact Or.inl rfl | exact Or.inr (Or.inl rfl) | exact Or.inr (Or.inr rfl)) (hd : (x == ("__debug__" : Str)) = false := by decide)
    (hcd : (x == ("__classdict__" : Str)) = false := by decide)
    (ha : ∀ k v, assign (.Subscript (.Name x p2) i tpos) (Φ.X k).env v = (do
      let ov ← holding [v] (eval (.Name x p2) (Φ.X k).env)
      let iv ← holding [v, ov] (eval i (Φ.X k).env)
      standAt tpos
      holding [v, ov, iv] (setItem ov iv v)
      release [v, ov, iv] []) := by intro _ _; rfl)
    (hs : ∀ k, swapsWithSole [.Subscript (.Name x p2) i tpos] e pos.line (Φ.X k).env = pure false := by intro _; rfl) (hw : ∀ k, swappedStores [.Subscript (.Name x p2) i tpos] e (Φ.X k).env = pure none := by intro _; rfl)
    (h1 : ∀ k, (assignEach [.Subscript (.Name x p2) i tpos] (Φ.X k).env).map (·.2) = [assign (.Subscript (.Name x p2) i tpos) (Φ.X k).env] := by intro _; rfl) :
    DS Φ W (.Assign [.Subscript (.Name x p2) i tpos] e pos) (wPut n we wi) := by
  obtain ⟨te, e1, e2⟩ := he
  obtain ⟨ti, i1, i2⟩ := hi
  refine ⟨tAsg te (gSub (tVar n) ti rSetL), fun k => ps_asg (e1 k) (pg_sub (pe_var (pos := p2) (hN k) (hv k) hd hcd) (i1 k) set_list (ha k)) (hs k) (hw k) (h1 k), fun B F H σ δ M E D r hw l xl => ?_⟩
  refine e2 B F H σ δ _ E _ r hw (fun v F1 H1 d δ1 r1 s1 rep q => ?_) (xl σ)
  have key : ∀ (hex : ∃ w, σ[n]? = some (some w)), gSub (tVar n) ti rSetL v σ H1 D.nx := fun ⟨w, hw⟩ => by
    refine ⟨w, hw, ?_⟩
    refine i2 B F1 H1 σ δ1 _ E _ r1 q.2 (fun u F2 H2 di δ2 r2 s2 repi q2 => ?_) (xl σ)
    split at q2
    · rename_i i
      cases repi
      split at q2
      · rename_i xs ho
        split at q2
        · rename_i j hj
          obtain ⟨a, ha, ⟨f1, hob, h2, h3⟩, ow⟩ := ownOf_at r2 ho
          rw [hw] at ha; cases ha
          obtain ⟨vs, rfl, h4⟩ := h3.lst
          have r3 := r2.chg (c := .l (xs.set j d)) (F' := F2) (H' := upd H2 a (.lst (vs.set j v))) ho hw (.refl _) (fun b o e => by rw [upd_ne (ne_of_none e f1)]; exact r2.sub _ _ e) ⟨f1, _, upd_same, RepL.set (rep.mono s2.f) j h4⟩ (fun b o e n => by rw [upd_ne n]; exact e) fun b o e _ => .inl ⟨o, e⟩
          exact ⟨a, vs, _, j, rfl, rfl, h2, by rw [h4.len]; exact hj, l.nx F2 _ σ _ r3.1 q2⟩
        · exact q2.elim
      · exact q2.elim
    · exact q2.elim
  obtain ⟨⟨c, hc⟩, _⟩ := id q
  obtain ⟨a, ha, _⟩ := ownOf_at r1 hc
  exact key ⟨_, ha⟩
end
end DL
namespace EX
open PySem PySem.W PySem.Calls PyProof.Rows PySem.HandSPX
def eA (f : Str) (p1 p2 p3 : Pos) : Arguments := { posonlyargs := [], args := [{ arg := "self", annotation := none, pos := p1 }, { arg := f, annotation := none, pos := p2 }], vararg := none, kwonlyargs := [], kw_defaults := [], kwarg := none, defaults := [.Constant .none 0 p3] }
def eB (f : Str) (q1 q2 q3 q4 q5 r1 r2 r3 r4 : Pos) : List Stmt := [.Expr (.Call (.Attribute (.Call (.Name "super" q1) [] [] q2) "__init__" q3) [.Name f q4] [] q5) q5, .Assign [.Attribute (.Name "self" r1) f r2] (.Name f r3) r4]
def eS (f : Str) : Scope := { kind := .function, names := [(PySem.Str.ofString "self", .local), (f, .local), (PySem.Str.ofString "__class__", .free), (PySem.Str.ofString "super", .globalImplicit)], isGenerator := false, isCoroutine := false, more := [] }
structure FldOk (f : Str) : Prop where
  n1 : (f == ("self" : Str)) = false
  n2 : (("self" : Str) == f) = false
  n3 : (("__class__" : Str) == f) = false
  n4 : (("super" : Str) == f) = false
  n5 : (f == ("__debug__" : Str)) = false
  n6 : (f == ("__class__" : Str)) = false
def SupCall (f : Str) (q1 q2 q3 q4 q5 : Pos) : Prop := ∃ pl : Sem Bool, ∀ env : Env,
  eval (.Call (.Attribute (.Call (.Name "super" q1) [] [] q2) "__init__" q3) [.Name f q4] [] q5) env = (do
    let ov ← attributeBase (.Call (.Name "super" q1) [] [] q2) "__init__" env (eval (.Call (.Name "super" q1) [] [] q2) env)
    standAt q3.atName
    let (g, first) ← holding [ov] (getMethod ov "__init__" pl)
    callWith q5 g first (backTo q5 (starEach [.Name f q4] env)) [])
def SwapsNot (f : Str) (q1 q2 q3 q4 q5 r1 r2 r3 r4 : Pos) : Prop :=
  (∀ env : Env, swapsWith (.Call (.Attribute (.Call (.Name "super" q1) [] [] q2) "__init__" q3) [.Name f q4] [] q5) none q5.line env = pure false) ∧
  (∀ env : Env, swapsWith (.Name f r3) (some (.Attribute (.Name "self" r1) f r2)) r4.line env = pure false)
structure ETxt (prog : Program) (K : Frag) (mg : Str → Option Value) (nm qi f : Str) (C fI : Addr) : Prop where
  ok : FldOk f
  gC : mg nm = some (.ref C)
  cls : ∃ nm' q N bs bm sn sub ab col dd k0 k1 k2 k3 k5, K.lookup C = some (excClassObj nm' q C N bs bm true sn sub ab col dd k0 k1 k2 k3 k5 "ValueError.__new__") ∧ refsVE bm = true
  ini : excInitIn K C veTail "ValueError.__new__" = true
  sa : findIn K (.ref C) "__setattr__" = some (some (.builtin "object.__setattr__"))
  ga : findIn K (.ref C) "__getattribute__" = some (some (.builtin "BaseException.__getattribute__"))
  gg : findIn K (.ref C) "__getattr__" = some none
  noN : findIn K (.ref C) f = some none
  iC : findIn K (.ref C) "__init__" = some (some (.ref fI))
  tC : typeIn K (.ref fI) = some (.type "function")
  kC : keepIn K (.ref C) = true
  exC : subIn K (.ref C) (.type "BaseException") = some true
  veC : subIn K (.ref C) (.type "ValueError") = some true
  tyC : typeIn K (.ref C) = some (.type "type")
  hdC : hasDictIn K C = true
  te : exmOne K (.ref C) (.ref C) = some true
  mro : mroIn K C (.ref C) = some true
  sup : ks_superIn K C C "__init__" = some (some (.builtin "ValueError.__init__"))
  any3 : nsIn K cStatics "thirdparty.any" = some none
  nsu : mg "super" = none
  fn : ∃ (oc : Value) (od : Option Addr) (doc pm dV kV : Value) (an : Option Addr) (cda cc : Addr) (ct : Value) (osl : Array (Option Value)) (p1 p2 p3 q1 q2 q3 q4 q5 r1 r2 r3 r4 : Pos),
    K.lookup fI = some ⟨oc, od, .func (fnX "__init__" qi (eA f p1 p2 p3) (eB f q1 q2 q3 q4 q5 r1 r2 r3 r4) (eS f) [("__class__", cc)] dV kV doc pm an (.ref cda) ct), osl⟩ ∧ codeIn K (.ref cda) qi = true ∧
    (∃ ccl cdd vs ccs, K.lookup cda = some ⟨ccl, cdd, .fields vs, ccs⟩ ∧ ∃ file tf, vs[2]? = some (.str file tf) ∧ ((prog.main.file : Str) == file) = true) ∧
    (∃ cl cld csl, K.lookup cc = some ⟨cl, cld, .cell (some (.ref C)), csl⟩) ∧
    SupCall f q1 q2 q3 q4 q5 ∧ SwapsNot f q1 q2 q3 q4 q5 r1 r2 r3 r4 ∧ L2.Binds K (fnX "__init__" qi (eA f p1 p2 p3) (eB f q1 q2 q3 q4 q5 r1 r2 r3 r4) (eS f) [("__class__", cc)] dV kV doc pm an (.ref cda) ct) [("self" : Str), f] []
  top : (prog.main.scope.names.lookup ("super" : Str)).isSome = false
theorem one_size (v : Value) : [v].length ≤ sizeLine := by
  rw [sizeLine_eq]
  exact (by decide : 1 ≤ 16777216)
structure EEnd (h h' : Heap) (x C dx : Addr) (f : Str) (v : Value) : Prop where
  keep : ∀ b o, b ≠ x → h.get? b = some o → h'.get? b = some o
  obj : ∃ t, h'.get? x = some { cls := .ref C, dict := some dx, data := .fields #[.ref t, .none, .none, .none, .bool false, .none] }
  dbig : h.objs.size ≤ dx
  dne : dx ≠ x
  ns : h'.Ns1 dx (fun y => if y = f then some v else none)
theorem lk_f {f : Str} (ok : FldOk f) : (eS f).names.lookup f = some .local := by
  show List.lookup f [(PySem.Str.ofString "self", NameKind.local), (f, .local), (PySem.Str.ofString "__class__", .free), (PySem.Str.ofString "super", .globalImplicit)] = _
  have h : (f == PySem.Str.ofString "self") = false := ok.n1
  simp only [List.lookup, h, beq_self_eq_true]
theorem lk_class {f : Str} (ok : FldOk f) : (eS f).names.lookup ("__class__" : Str) = some .free := by
  show List.lookup (PySem.Str.ofString "__class__") [(PySem.Str.ofString "self", NameKind.local), (f, .local), (PySem.Str.ofString "__class__", .free), (PySem.Str.ofString "super", .globalImplicit)] = _
  have h : (PySem.Str.ofString "__class__" == f) = false := ok.n3
  have h2 : (PySem.Str.ofString "__class__" == PySem.Str.ofString "self") = false := by decide +kernel
  simp only [List.lookup, h, h2, beq_self_eq_true]
theorem lk_super {f : Str} (ok : FldOk f) : (eS f).names.lookup ("super" : Str) = some .globalImplicit := by
  show List.lookup (PySem.Str.ofString "super") [(PySem.Str.ofString "self", NameKind.local), (f, .local), (PySem.Str.ofString "__class__", .free), (PySem.Str.ofString "super", .globalImplicit)] = _
  have h : (PySem.Str.ofString "super" == f) = false := ok.n4
  have h2 : (PySem.Str.ofString "super" == PySem.Str.ofString "self") = false := by decide +kernel
  have h3 : (PySem.Str.ofString "super" == PySem.Str.ofString "__class__") = false := by decide +kernel
  simp only [List.lookup, h, h2, h3, beq_self_eq_true]
section
variable {prog : Program} {w : World} {A : Around} {E : Value → Shared → Prop} {R : Result → Shared → Prop} {s : Shared} {K : Frag} {mg mb : Str → Option Value} {nm qi f : Str} {C fI : Addr}
theorem e_init (T : ETxt prog K mg nm qi f C fI) {x t0 : Addr} {v : Value} (X : K.In s.heap) (hlim : s.heap.NoLimit) (hg : s.heap.Ns mainGlobals mg) (hb : s.heap.Ns builtinsNs mb) (hsup : mb "super" = some (.type "super")) (hx : s.heap.get? x = some (HandSPX.excO C t0)) (hnx : K.lookup x = none) (hroom : A.depth < recursionLimit)
    {args : Args} (hbind : ∀ fd : FuncData, K.lookup fI ≠ none → (∃ o, K.lookup fI = some o ∧ o.data = .func fd) → BindsTo s fd args [("self", .ref x), (f, v)])
    (hq : ∀ h' tk dx, EEnd s.heap h' x C dx f v → R (.ok (.ret .none)) { s with heap := h', toks := tk }) :
    codeAny (model prog w) A (.call (.ref fI) args) R s := by
  obtain ⟨oc, od, doc, pm, dV, kV, an, cda, cc, ct, osl, p1, p2, p3, q1, q2, q3, q4, q5, r1, r2, r3, r4, ho, hcd, ⟨ccl, cdd, cvs, ccs, hcode, file, tf, hvs, hfile⟩, ⟨cl, cld, csl, hcell⟩, ⟨pl, hsc⟩, ⟨hs1, hs2⟩, _⟩ := T.fn
  obtain ⟨nm', qn, N, bs, bm, sn, sub, ab, col, dd, k0, k1, k2, k3, k5, hC, hbm⟩ := T.cls
  have ok := T.ok
  have hcl : clsIn K C = some { name := nm', bases := bs, mro := .ref C :: bm, ns := N, qualname := qn, hasDict := true, slotNames := sn, subclasses := sub, abstract := ab, collection := col, hasDel := false } := by unfold clsIn; rw [hC] <;> rfl
  refine ks_codeAny_call_defAt (binds := [("self", .ref x), (f, v)]) hroom (X _ _ ho) rfl hlim (codeRec_of X hcd) rfl (hbind _ (by rw [ho]; exact fun z => nomatch z) ⟨_, ho, rfl⟩) ?c1 ?c2 (fun h₁ hns hk => ?_) rfl rfl rfl
  case c1 =>
    intro y hy
    have hy' : y ∈ (eS f).names := hy
    simp only [eS, List.mem_cons, List.not_mem_nil, or_false] at hy'
    rcases hy' with rfl | rfl | rfl | rfl <;> exact fun z => nomatch z
  case c2 =>
    intro y hy
    rcases List.mem_cons.mp hy with rfl | hy
    · rfl
    · rcases List.mem_cons.mp hy with rfl | hy
      · exact lk_f ok
      · cases hy
  have X₁ : K.In h₁ := X.keeps hk
  have hx₁ := hk _ _ hx
  have hg₁ := hg.keeps hk
  have hb₁ := hb.keeps hk
  have hself : (fun y => List.lookup y ([("self", .ref x), (f, v)] : List (Str × Value)).reverse) "self" = some (Value.ref x) := by
    show List.lookup ("self" : Str) [(f, v), ("self", Value.ref x)] = _
    simp only [List.lookup, ok.n2]
    rfl
  have hfv : (fun y => List.lookup y ([("self", .ref x), (f, v)] : List (Str × Value)).reverse) f = some v := by
    show List.lookup f [(f, v), ("self", Value.ref x)] = _
    simp only [List.lookup, beq_self_eq_true]
  have xL : s.heap.objs.size ≠ x := Nat.ne_of_gt (Heap.lt_size hx)
  have hroom2 := hroom
  obtain ⟨hp, g, dr, tk, os⟩ := s
  have hC₁ : h₁.get? C = some (excClassObj nm' qn C N bs bm true sn sub ab col dd k0 k1 k2 k3 k5 "ValueError.__new__") := X₁ _ _ hC
  have I₁ : InstAt h₁ x (HandSPX.excO C t0) C none := ⟨hx₁, rfl, rfl, trivial⟩
  refine ks_wpAt_execs_cons (ks_wpAt_Expr_any (ks_wpAt_MethodCall (ks_wpAt_super_base (lk_super ok) (lk_class ok) rfl rfl (X₁ _ _ ho) rfl rfl rfl (X₁ _ _ hcode) rfl hvs hfile T.top ?_) (hsc _)) ?_ ?_)
  · refine ks_loadName_global rfl (lk_super ok) (loadGlobal_builtin hg₁ T.nsu hb₁ hsup ⟨rfl, ?_⟩)
    refine wpAny_loadName_free rfl (lk_class ok) rfl ⟨_, X₁ _ _ hcell, rfl⟩ ?_
    refine wpAny_loadName_local rfl rfl hns hself ?_
    refine ks_wpAny_isType_cls hC₁ rfl ⟨rfl, ?_⟩
    refine ks_wpAny_call_super hC₁ rfl hx₁ rfl (fun c e => nomatch e) (looks_mroIn X₁ T.mro) (fun h₂ e₂ k₂ => ?_)
    -- the bound __init__
    have X₂ : K.In h₂ := X₁.keeps k₂
    have I₂ : InstAt h₂ x (HandSPX.excO C t0) C none := ⟨k₂ _ _ hx₁, rfl, rfl, trivial⟩
    have hm := T.sup
    unfold ks_superIn at hm
    rw [hcl] at hm
    have xn : (hideAll hp [x]).get? x = none := hideAll_none _ List.mem_cons_self
    have gk : ∀ b o, (hideAll hp [x]).get? b = some o → hp.get? b = some o := fun b o e => of_hideAll _ e
    have kg : ∀ b o, b ≠ x → hp.get? b = some o → (hideAll hp [x]).get? b = some o := fun b o n e => hideAll_get _ e (by simpa using n)
    have Fr₁ : Fr (hideAll hp [x]) hp.objs.size h₁ _ := ⟨hns, fun b o e => hk b o (gk b o e), Nat.le_of_eq (hideAll_size _ _)⟩
    have Nw₁ : News (hideAll hp [x]) hp.objs.size h₁ [(x, HandSPX.excO C t0)] := fun p hp' => by
      rcases List.mem_cons.mp hp' with rfl | z
      · exact ⟨hx₁, Ne.symm xL, xn⟩
      · cases z
    obtain ⟨Fr₂, Nw₂, lt₂⟩ := ks_newsPush (s := ⟨h₁, g, dr, tk, os⟩) (o := ks_superObj C x C) Fr₁ Nw₁ rfl e₂ k₂
    have XG : K.In (hideAll hp [x]) := fun a o e => kg a o (fun z => by rw [z, hnx] at e; cases e) (X a o e)
    refine kxs_method kxs_ValueError Fr₂ XG Nw₂ List.mem_cons_self I₂ T.any3 T.sup T.veC rfl (fun q h₃ Fr₃ Nw₃ lt₃ => ?_)
    refine kxs_callWith1 (i := "ValueError.__init__") (x := x) Nw₃ List.mem_cons_self (spliced_more (wpAny_Name (wpAny_loadName_local rfl (lk_f ok) Fr₃.ns hfv (args_nil ⟨kxs_at Nw₃ List.mem_cons_self, ?_⟩)) ok.n5))
    refine kxs_call Fr₃ XG Nw₃ F.excBase_ValueError T.ini List.mem_cons_self (.tail ?_ (.tail ?_ (.head fun _ z => nomatch z))) (one_size v) (fun t' h₄ Fr₄ Nw₄ lt₄ => ?_)
    · exact Ne.symm (Nat.ne_of_lt (lt₃ _ (List.mem_cons_of_mem _ List.mem_cons_self)))
    · exact Ne.symm (Nat.ne_of_lt (lt₂ _ List.mem_cons_self))
    · have X₄ : K.In h₄ := XG.keeps Fr₄.keep
      have hx₄ : h₄.get? x = some (HandSPX.excO C t') := (Nw₄ (x, HandSPX.excO C t') (List.mem_cons_of_mem _ (List.mem_cons_of_mem _ (List.mem_cons_of_mem _ List.mem_cons_self)))).1
      refine wpAt_of_wpAny (wpAny_execs_cons (plainObj_wpAny_Assign_Attribute ?_ ?_))
      · refine wpAny_Name (wpAny_loadName_local rfl (lk_f ok) Fr₄.ns hfv (wpAny_Name (wpAny_loadName_local rfl rfl Fr₄.ns hself ?_) rfl)) ok.n5
        refine set_plain X₄ (ox := HandSPX.excO C t') (od := none) ⟨hx₄, rfl, rfl, trivial⟩ T.sa ?_
        refine exc_osa X₄ hx₄ hcl (show refsVE (.ref C :: bm) = true from hbm) rfl T.noN (fun h₅ tk₅ dx k₅ dn dne hx₅ hn₅ => ?_)
        refine wpAny_execs_nil (hq h₅ tk₅ dx ⟨fun b o hb e => k₅ b o hb (Fr₄.keep _ _ (kg b o hb e)), ⟨_, hx₅⟩, ?_, dne, hn₅⟩)
        have z := Fr₄.ns.lt
        exact Nat.le_of_lt (Nat.lt_of_lt_of_le z dn)
      · exact hs2 _
  · rfl
  · exact hs1 _
end
end EX
namespace EX
open PySem PySem.W PySem.Calls PyProof.Rows PySem.HandSPX
structure EMade (h h' : Heap) (e C d : Addr) (f : Str) (v : Value) : Prop where
  keep : ∀ b o, h.get? b = some o → h'.get? b = some o
  new : h.objs.size ≤ e
  obj : ∃ t, h'.get? e = some { cls := .ref C, dict := some d, data := .fields #[.ref t, .none, .none, .none, .bool false, .none] }
  dbig : h.objs.size ≤ d
  dne : d ≠ e
  ns : h'.Ns1 d (fun y => if y = f then some v else none)
section
variable {prog : Program} {w : World} {A : Around} {E : Value → Shared → Prop} {R : Result → Shared → Prop} {s : Shared} {K : Frag} {mg mb : Str → Option Value} {nm qi f : Str} {C fI : Addr}
theorem e_made (T : ETxt prog K mg nm qi f C fI) {v : Value} (X : K.In s.heap) (hlim : s.heap.NoLimit) (hg : s.heap.Ns mainGlobals mg) (hb : s.heap.Ns builtinsNs mb) (hsup : mb "super" = some (.type "super")) (hroom : A.depth + 1 < recursionLimit)
    (hq : ∀ h' tk e d, EMade s.heap h' e C d f v → R (.ok (.ret (.ref e))) { s with heap := h', toks := tk }) :
    codeAny (model prog w) A (.call (.ref C) ⟨[v], []⟩) R s := by
  obtain ⟨nm', qn, N, bs, bm, sn, sub, ab, col, dd, k0, k1, k2, k3, k5, hC, hbm⟩ := T.cls
  obtain ⟨hp, g, dr, tk, os⟩ := s
  have up : ∀ b o, hp.get? b = some o → ((hp.push (kdv_tup [v])).push (excO C hp.objs.size)).get? b = some o := fun b o e => Heap.get?_push_of_some _ (Heap.get?_push_of_some _ e)
  have there : ((hp.push (kdv_tup [v])).push (excO C hp.objs.size)).get? (hp.objs.size + 1) = some (excO C hp.objs.size) := by heap_get
  have free : K.lookup (hp.objs.size + 1) = none := by
    cases e : K.lookup (hp.objs.size + 1) with
    | none => rfl
    | some o =>
      have z : hp.get? (hp.objs.size + 1) = some o := X _ _ e
      exact absurd (Nat.lt_of_succ_lt (Heap.lt_size z)) (Nat.lt_irrefl _)
  refine call_own F.excBase_ValueError (fun X => refsVE_contains X bm hbm) (X _ _ hC) (looks_findIn X T.iC) (fun self => bind_fn X self T.tC) (one_size v) ?_
  refine e_init (s := ⟨(hp.push (kdv_tup [v])).push (excO C hp.objs.size), g, dr, tk, os⟩) (v := v) (x := hp.objs.size + 1) (t0 := hp.objs.size) T (X.keeps up) (hlim.keeps up) (hg.keeps up) (hb.keeps up) hsup there free hroom (fun fd _ hfd => ?_) fun h' tk' dx ⟨kp, ⟨t, hx⟩, dn, dne, hns⟩ => ?_
  · obtain ⟨oc, od, doc, pm, dV, kV, an, cda, cc, ct, osl, p1, p2, p3, q1, q2, q3, q4, q5, r1, r2, r3, r4, ho, _, _, _, _, _, hbi⟩ := T.fn
    obtain ⟨o, h1, h2⟩ := hfd
    rw [ho] at h1
    cases h1
    cases h2
    exact hbi _ [.ref (hp.objs.size + 1), v] (X.keeps up) rfl
  · have z : hp.objs.size + 1 + 1 ≤ dx := by
      first
        | (simpa only [Heap.size_push] using dn)
        | exact dn
    exact ⟨rfl, hq h' tk' (hp.objs.size + 1) dx ⟨fun b o e => kp b o (Nat.ne_of_lt (Nat.lt_succ_of_lt (Heap.lt_size e))) (up b o e), Nat.le_succ _, ⟨t, hx⟩, Nat.le_trans (Nat.le_trans (Nat.le_succ _) (Nat.le_succ _)) z, dne, hns⟩⟩
end
end EX
namespace DL
open PySem L2
open PyProof.Rows (envOfC)
open EX (ETxt EMade e_made)
theorem rel_one {f : Str} {v : V} {u : Value} (r : RelV v u) (y : Str) : RelO (List.lookup y [(f, v)]) (if y = f then some u else none) := by
  by_cases h : y = f
  · subst h
    rw [if_pos rfl, show List.lookup y [(y, v)] = some v by simp [List.lookup]]
    exact r
  · have h2 : (y == f) = false := by simpa using h
    rw [if_neg h, show List.lookup y [(f, v)] = none by simp [List.lookup, h2]]
    trivial
section
variable {X : Cx} {nm qi f : Str} {C fI : Addr}
end
section
variable {Φ : Fam} {W : WX} {nm qi f : Str} {C fI : Addr} {k : Nat} {a : Expr} {p pos pos2 : Pos}
def wRaise (C : Addr) (f : Str) (w : WL) : WS := fun _ E δ => w δ (fun xs δ' => match xs with
  | [x] => E C f x δ'
  | _ => False) E
end
end DL
namespace DL
open PySem L2
def inSlot (i : Nat) (D : Ends) : Ends := { nx := fun σ H => D.nx (σ.set i none) H, rt := D.rt, bk := fun σ H => D.bk (σ.set i none) H, ct := fun σ H => D.ct (σ.set i none) H }
abbrev Cl := Value × Nat × (Addr → Value → Option Addr → TS)
def wCls (K : PySem.W.Frag) (Wout : WX) (D : Ends) : List Cl → WX
  | [] => Wout
  | (c, i, ts) :: r => fun cls d σ H => ∃ b, PySem.W.exmOne K cls c = some b ∧ (b = true → ∀ a, H a = none → ts a cls d (inSlot i D) (σ.set i (some (.ref a))) H) ∧ (b = false → wCls K Wout D r cls d σ H)
inductive ClsOk (X : Cx) : List ExceptHandler → List Cl → Prop
  | nil : ClsOk X [] []
  | cons {x n : Str} {c : Value} {i : Nat} {ts : Addr → Value → Option Addr → TS} {b₀ : Stmt} {suite : List Stmt} {np pos' : Pos} {hds : List ExceptHandler} {l : List Cl} (hc : Names X x c) (hi : X.N[i]? = some n) (hl : X.env.kindOf n = some .local)
      (hsu : ∀ (a : Addr) (oe : Obj) (cls : Value) (d : Option Addr) (pn : List (Addr × Obj)), (Zc cls d oe ∧ ∃ vs, oe.data = .fields vs) → PSs (X.suite a ((a, oe) :: pn)) (b₀ :: suite) (ts a cls d)) (r : ClsOk X hds l) :
      ClsOk X (.ExceptHandler (some (.Name x np)) (some n) (b₀ :: suite) pos' :: hds) ((c, i, ts) :: l)
section
variable {X : Cx} {body : List Stmt} {hd0 : ExceptHandler} {hds : List ExceptHandler} {l : List Cl} {pos : Pos} {tb : WX → TS} {Wout : WX}
end
end DL
namespace DL
open PySem L2
def Fam.suite (Φ : Fam) (a : Addr) (cls : Value) (d : Option Addr) : Fam where
  ι := { q : Φ.ι × Obj × List (Addr × Obj) // Zc cls d q.2.1 ∧ ∃ vs, q.2.1.data = .fields vs }
  X := fun q => (Φ.X q.1.1).suite a ((a, q.1.2.1) :: q.1.2.2)
  K := Φ.K
  hK := fun q => Φ.hK q.1.1
abbrev ClD := Value × Nat × (Addr → Value → Option Addr → WS)
def outSlot (i : Nat) (M : WEnds) : WEnds := { nx := fun δ => M.nx (δ.set i none), rt := M.rt, bk := fun δ => M.bk (δ.set i none), ct := fun δ => M.ct (δ.set i none) }
def wClsD (K : PySem.W.Frag) (M : WEnds) (E : XQ) : List ClD → XQ
  | [] => E
  | (c, i, ws) :: r => fun C f x δ => ∃ b, PySem.W.exmOne K (.ref C) c = some b ∧ (b = true → i < δ.length ∧ ∀ a dd, ws a (.ref C) (some dd) (outSlot i M) E00 (δ.set i (some (.d (.exc a C dd f x))))) ∧ (b = false → wClsD K M E r C f x δ)
inductive ClsD (Φ : Fam) : List ExceptHandler → List ClD → Prop
  | nil : ClsD Φ [] []
  | cons {x n : Str} {c : Value} {ws : Addr → Value → Option Addr → WS} {b₀ : Stmt} {suite : List Stmt} {np pos' : Pos} {hds : List ExceptHandler} {l : List ClD} (i : Nat) (hc : ∀ j, Names (Φ.X j) x c)
      (hsu : ∀ (a : Addr) (cls : Value) (d : Option Addr), DSs (Φ.suite a cls d) W0 (b₀ :: suite) (ws a cls d)) (r : ClsD Φ hds l) (hi : ∀ j, (Φ.X j).N[i]? = some n := by intro _; rfl) (hl : ∀ j, (Φ.X j).env.kindOf n = some .local := by intro _; rfl) :
      ClsD Φ (.ExceptHandler (some (.Name x np)) (some n) (b₀ :: suite) pos' :: hds) ((c, i, ws) :: l)
section
variable {Φ : Fam} {W : WX} {body : List Stmt} {hd0 : ExceptHandler} {hds : List ExceptHandler} {l : List ClD} {pos : Pos} {wb : WS}
theorem RB.gone {K : PySem.W.Frag} {B : Bs} {F H : Hp} {σ : St} {δ : Dl} (r : RB K B F H σ δ) (i : Nat) : RB K B F H (σ.set i none) (δ.set i none) := r.wipe [i]
theorem ClsD.run {hs : List ExceptHandler} {l : List ClD} (h : ClsD Φ hs l) : ∃ l' : List Cl, (∀ j, ClsOk (Φ.X j) hs l') ∧ ∀ (B : Bs) (M : WEnds) (E : XQ) (D : Ends), LK Φ.K B M D → (∀ σ', XL Φ.K B W σ' E) → ∀ σ', XL Φ.K B (wCls Φ.K W D l') σ' (wClsD Φ.K M E l) := by
  induction h with
  | nil => exact ⟨[], fun _ => .nil, fun B M E D lk xl => xl⟩
  | @cons x n c ws b₀ suite np pos' hds l i hc hsu r hi hl ih =>
    obtain ⟨l', h1, h2⟩ := ih
    refine ⟨(c, i, fun a cls d => Classical.choose (hsu a cls d)) :: l', fun j => .cons (hc j) (hi j) (hl j) (fun a oe cls d pn hz => (Classical.choose_spec (hsu a cls d)).1 ⟨(j, oe, pn), hz⟩) (h1 j), fun B M E D lk xl σ F' H' δ' C dd f v y r' hd hb rep q => ?_⟩
    obtain ⟨b, hb1, hyes, hno⟩ := q
    refine ⟨b, hb1, fun e a ha => ?_, fun e => h2 B M E D lk xl σ F' H' δ' C dd f v y r' hd hb rep (hno e)⟩
    obtain ⟨hi', hws⟩ := hyes e
    have now : ¬ Ow σ δ' dd := fun z => by
      obtain ⟨j, ⟨c', e'⟩, hs⟩ := z
      rcases e' with e' | e'
      · obtain ⟨a1, g1, ⟨_, u, g2, g3⟩, _⟩ := r'.own j c' e'
        rw [hs] at g1; cases g1
        rw [hd] at g2; cases g2
        cases c' <;> exact g3.elim
      · obtain ⟨a1, g1, ⟨_, u, g2, g3⟩, _⟩ := r'.par j c' e'
        rw [hs] at g1; cases g1
        rw [hd] at g2; cases g2
        cases c' <;> exact g3.elim
    obtain ⟨F2, r2, s2, e2⟩ : ∃ F2, RB Φ.K B F2 H' σ δ' ∧ Same F' F2 ∧ F2 dd = some (.xd [(f, v)]) := by
      cases z : F' dd with
      | some o =>
        have := r'.sub _ _ z
        rw [hd] at this; cases this
        exact ⟨F', r', .refl _, z⟩
      | none => exact ⟨_, r'.freeze hd z now hb, fun b o e => by rw [upd_ne (ne_of_none e z)]; exact e, upd_same⟩
    have r3 : RB Φ.K B F2 H' (σ.set i (some (.ref a))) (δ'.set i (some (.d (.exc a C dd f y)))) := r2.put (H0 := H') (sd := .d (.exc a C dd f y)) (.exc e2 (rep.mono s2)) hi'
    refine (Classical.choose_spec (hsu a (.ref C) (some dd))).2 B F2 H' _ _ (outSlot i M) E00 (inSlot i D) r3 (hws a dd) ⟨fun F H τ ε r q => lk.nx F H _ _ (r.gone i) q, lk.rt, fun F H τ ε r q => lk.bk F H _ _ (r.gone i) q, fun F H τ ε r q => lk.ct F H _ _ (r.gone i) q⟩ fun _ _ _ _ _ _ _ _ _ _ _ _ _ z => z
def wXf (i : Nat) (a C : Addr) (cls : Value) (d : Option Addr) (n : Str) : WE := fun δ Q _ => ∃ dd x, δ[i]? = some (some (.d (.exc a C dd n x))) ∧ cls = .ref C ∧ d = some dd ∧ Q (.d x) δ
end
end DL
namespace DL
open PySem L2
def putD (f : Str) (x : D) : List (Str × D) → List (Str × D)
  | [] => [(f, x)]
  | (g, y) :: r => if g = f then (g, x) :: r else (g, y) :: putD f x r
section
variable {X : Cx} {CX : CXT} {k : Nat} {f C : Addr} {fd : FuncData} {ps : List Str} {sp : Sp} {dvs : List V} {ds : List Value} {E : St → XK} {x m : Str} {p pos apos : Pos} {e o : Expr} {es : List Expr} {ta : TE} {t : TA}
end
end DL
namespace DL
open PySem L2
section
variable {K : PySem.W.Frag} {B : Bs} {F H H1 F' H' : Hp} {σ : St} {δ : Dl}
theorem RepF.put {f : Str} {v : V} {d : D} (q : Rep K F v d) : ∀ {vs : List (Str × V)} {ds : List (Str × D)}, RepF K F vs ds → RepF K F (putF f v vs) (putD f d ds)
  | _, _, .nil => .cons q .nil
  | _, _, .cons (k := k) h r => by
    show RepF K F (if k = f then _ else _) (if k = f then _ else _)
    by_cases z : k = f
    · rw [if_pos z, if_pos z]; exact .cons q r
    · rw [if_neg z, if_neg z]; exact .cons h (RepF.put q r)
def nons (n : Nat) : List D := List.replicate n .non
end
section
variable {Φ : Fam} {W : WX} {e o val : Expr} {es : List Expr} {pos p pos' apos : Pos} {C f g : Addr} {fd : FuncData} {ps : List Str} {k : Nat} {ds : DSp} {m : Str}
def wFld (C : Addr) (f : Str) (w : WO) : WE := fun δ Q E => w δ (fun o δ1 => match view δ1 o with
  | some (.obj C' fs) => C' = C ∧ ∃ d, fs.lookup f = some d ∧ Q (.d d) δ1
  | _ => False) E
def wSetF (n : Nat) (C : Addr) (f : Str) (w : WF) : WS := fun M E δ => w δ (fun x δ1 => match ownOf δ1 n with
  | some (.ob C' fs) => C' = C ∧ fs.length < 1000 ∧ M.nx (keepKind δ1 n (.ob C (putD f x fs)))
  | _ => False) E
def wMeth (ds : DSp) (C : Addr) (m : Str) (n : Nat) (wo : WF) (w : WL) : WE := fun δ Q E => wo δ (fun o δ1 => match o with
  | .obj C' fs => C' = C ∧ fs.lookup m = none ∧ w δ1 (fun xs δ2 => ds (argsD (.obj C fs :: (xs ++ nons n))) (fun sd _ => Q sd δ2) (fun C f x _ => E C f x δ2)) E
  | _ => False) E
structure FnN (Φ : Fam) (k : Nat) (f : Addr) (fd : FuncData) (ps : List Str) (n : Nat) (ds : DSp) : Prop where
  ok : ∀ i, FnOk (Φ.X i).prog (Φ.X i).w (Φ.X i).K (Φ.X i).mg (Φ.X i).base (L2.CX (Φ.X i).prog (Φ.X i).w) k f fd ps (toSp Φ.K ds)
  bi : ∀ i, Binds (Φ.X i).K fd ps (List.replicate n Value.none)
def wMake (ds : DSp) (C : Addr) (n : Nat) (w : WL) : WE := fun δ Q E => w δ (fun xs δ1 => ds (some (.p (.ob C [])) :: argsD (xs ++ nons n)) (fun sd α => match α with
    | some (.p (.ob C' fs)) :: _ => sd = .d .non ∧ Q (.o (.ob C' fs)) δ1
    | _ => False) (fun C f x _ => E C f x δ1)) E
end
end DL
namespace DL
open PySem L2
section
variable {K : PySem.W.Frag} {B : Bs} {H0 F H F' H' : Hp} {σ : St} {δ δ' : Dl} {v : V}
theorem SR.step (s : Stp σ δ δ' F H F' H') : ∀ {sd : SD}, SR K B H0 F H σ δ v sd → SR K B H0 F' H' σ δ' v sd
  | .d _, h => Rep.mono s.f h
  | .o _, ⟨a, e, o, n, b, z⟩ => ⟨a, e, o.step s n, fun q => n (s.o a q), b, z⟩
  | .p _, h => h.elim
theorem SR.beside {i : Nat} {u : V} {su sv : SD} (r : RB K B F H σ δ) (hi : i < δ.length) (hu : SR K B H0 F H σ δ u su) (hv : SR K B H0 F H σ δ v sv)
    (ap : ∀ a c c', u = .ref a → su = .o c → v = .ref a → sv = .o c' → False) : SR K B H0 F H (σ.set i (some u)) (δ.set i (some su)) v sv := by
  cases sv with
  | d x => exact hv
  | p c => exact hv.elim
  | o c =>
    obtain ⟨a, rfl, o, n, b, z⟩ := hv
    refine ⟨a, rfl, o, fun q => ?_, b, z⟩
    obtain ⟨j, ⟨c', e⟩, hs⟩ := q
    by_cases ij : i = j
    · subst ij
      rw [List.getElem?_set_self hi] at e
      rw [List.getElem?_set_self (by rw [← r.len]; exact hi)] at hs
      injection hs with hs; injection hs with hs
      rcases e with e | e
      · injection e with e; injection e with e
        exact ap a c' c hs e rfl rfl
      · injection e with e; injection e with e
        subst e
        exact hu.elim
    · rw [List.getElem?_set_ne ij] at e hs
      exact n ⟨j, ⟨c', e⟩, hs⟩
end
section
variable {Φ : Fam} {W : WX} {a b c e tg : Expr} {pos : Pos}
abbrev WL2 := Dl → (SD → SD → Dl → Prop) → XQ → Prop
def wTwo (wa wb : WE) : WL2 := fun δ Q E => wa δ (fun x δ1 => wb δ1 (fun y δ2 => Q x y δ2) E) E
def Apart (u v : V) (su sv : SD) : Prop := ∀ a c c', u = .ref a → su = .o c → v = .ref a → sv = .o c' → False
theorem SR.apart {K : PySem.W.Frag} {B : Bs} {H0 F1 H1 F2 H2 : Hp} {σ : St} {δ1 δ2 : Dl} {u v : V} {su sv : SD} (h : SR K B H0 F1 H1 σ δ1 u su) (h' : SR K B H1 F2 H2 σ δ2 v sv) : Apart u v su sv := fun a c c' e1 e2 e3 e4 => by
  subst e1; subst e2; subst e3; subst e4
  obtain ⟨x, q1, ⟨_, o, q2, _⟩, _⟩ := h
  obtain ⟨y, q3, _, _, _, q4⟩ := h'
  cases q1
  cases q3
  rw [q4] at q2; cases q2
theorem da_two {wa wb : WE} (ha : DE Φ W a wa) (hb : DE Φ W b wb) (hs : ∀ i, starEach [a, b] (Φ.X i).env = (false, eval a (Φ.X i).env) :: starEach [b] (Φ.X i).env := by intro _; rfl) (hs2 : ∀ i, starEach [b] (Φ.X i).env = (false, eval b (Φ.X i).env) :: starEach [] (Φ.X i).env := by intro _; rfl) :
    ∃ t, (∀ i, PA (Φ.X i) [a, b] t) ∧ ∀ (B : Bs) (F H : Hp) (σ : St) (δ : Dl) (Q : SD → SD → Dl → Prop) (E : XQ) (Qh : List V → Hp → Prop), RB Φ.K B F H σ δ → wTwo wa wb δ Q E →
      (∀ u v F' H' su sv δ', RB Φ.K B F' H' σ δ' → Stp σ δ δ' F H F' H' → SR Φ.K B H F' H' σ δ' u su → SR Φ.K B H F' H' σ δ' v sv → Apart u v su sv → Q su sv δ' → Qh [u, v] H') → XL Φ.K B W σ E → t σ H Qh := by
  obtain ⟨t1, a1, a2⟩ := ha
  obtain ⟨t2, b1, b2⟩ := hb
  refine ⟨_, fun i => pa_cons (a1 i) (pa_cons (b1 i) pa_nil (hs2 i)) (hs i), fun B F H σ δ Q E Qh r hw p x => ?_⟩
  refine a2 B F H σ δ _ E _ r hw (fun u F1 H1 su δ1 r1 s1 q1 w1 => ?_) x
  refine b2 B F1 H1 σ δ1 _ E _ r1 w1 (fun v F2 H2 sv δ2 r2 s2 q2 w2 => ?_) x
  exact p u v F2 H2 su sv δ2 r2 (s1.trans s2) (q1.step s2) (q2.old fun _ z => s1.past z) (q1.apart q2) w2
def wPar (i j : Nat) (w : WL2) : WS := fun M E δ => w δ (fun x y δ' => i < δ'.length ∧ j < δ'.length ∧ M.nx ((δ'.set i (some x)).set j (some y))) E
theorem ds_par (i j : Nat) {x y : Str} {px py pt : Pos} {kt k2 : Nat} {pt2 : Pos} {wa wb : WE} (hc : ∀ k, (Φ.X k).calm = true) (hN : ∀ k, (Φ.X k).N.Nodup) (ha : DE Φ W a wa) (hb : DE Φ W b wb)
    (hw : ∀ k, swappedStores [.Tuple [.Name x px, .Name y py] kt pt] (.Tuple [a, b] k2 pt2) (Φ.X k).env = pure (some [x, y]))
    (hi : ∀ k, (Φ.X k).N[i]? = some x := by intro _; rfl) (hj : ∀ k, (Φ.X k).N[j]? = some y := by intro _; rfl) (hij : i ≠ j := by decide)
    (hx : ∀ k, (Φ.X k).env.scope.names.lookup x = some .local := by intro _; rfl) (hy : ∀ k, (Φ.X k).env.scope.names.lookup y = some .local := by intro _; rfl)
    (hs : ∀ i, starEach [a, b] (Φ.X i).env = (false, eval a (Φ.X i).env) :: starEach [b] (Φ.X i).env := by intro _; rfl) (hs2 : ∀ i, starEach [b] (Φ.X i).env = (false, eval b (Φ.X i).env) :: starEach [] (Φ.X i).env := by intro _; rfl)
    (hss : ∀ k, swapsWithSole [.Tuple [.Name x px, .Name y py] kt pt] (.Tuple [a, b] k2 pt2) pos.line (Φ.X k).env = pure false := by intro _; rfl) :
    DS Φ W (.Assign [.Tuple [.Name x px, .Name y py] kt pt] (.Tuple [a, b] k2 pt2) pos) (wPar i j (wTwo wa wb)) := by
  obtain ⟨t, h1, h2⟩ := da_two ha hb hs hs2
  refine ⟨_, fun k => ps_par (hc k) (hN k) (hi k) (hj k) hij (hx k) (hy k) (h1 k) (hw k) (hss k), fun B F H σ δ M E D r hwp lk xl => ?_⟩
  refine h2 B F H σ δ _ E _ r hwp (fun u v F1 H1 su sv δ1 r1 s1 q1 q2 ap w => ?_) (xl σ)
  obtain ⟨l1, l2, w⟩ := w
  refine ⟨u, v, rfl, lk.nx _ _ _ _ ((r1.put q1 l1).put (SR.beside r1 l1 q1 q2 ap) (by rw [List.length_set]; exact l2)) w⟩
def wUn (w : WF) (g : WG) : WS := fun M E δ => w δ (fun x δ' => g x δ' M.nx) E
def wAugI (i : Nat) (f : Int → Int → Int) (w : WF) : WS := fun M E δ => ∃ n, δ[i]? = some (some (.d (.int n))) ∧ w δ (fun x δ' => match x with
  | .int m => i < δ'.length ∧ M.nx (δ'.set i (some (.d (.int (f n m)))))
  | _ => False) E
end
end DL
namespace DL
open PySem L2
section
variable {α : Type}
def valG (kvs : List (Key × α)) (k : Key) : Option α := (kvs.find? fun p => decide (p.1 = k)).map (·.2)
def putG (kvs : List (Key × α)) (k : Key) (v : α) : List (Key × α) := if (kvs.any fun p => decide (p.1 = k)) = true then kvs.map (fun p => if p.1 = k then (p.1, v) else p) else kvs ++ [(k, v)]
end
def keyD : D → Option Key
  | .int i => some (.inl i)
  | .str x => some (.inr x)
  | _ => none
def dKey : Key → D
  | .inl i => .int i
  | .inr x => .str x
section
variable {K : PySem.W.Frag} {F H : Hp} {v : V}
theorem PR.key {x : D} {k : Key} (h : PR K F H v x) (e : keyD x = some k) : v = kV k := by
  cases x with
  | int i => cases e; exact h.int
  | str z => cases e; exact h.str
  | _ => cases e
theorem Rep.key {x : D} {k : Key} (h : Rep K F v x) (e : keyD x = some k) : v = kV k := PR.key (H := F) (.inl h) e
theorem RepK.val {k : Key} : ∀ {vs : List (Key × V)} {ds : List (Key × D)}, RepK K F vs ds → (∀ d, valG ds k = some d → ∃ v, valV vs k = some v ∧ Rep K F v d) ∧ (valG ds k = none → valV vs k = none)
  | _, _, .nil => ⟨fun d e => (nomatch (show (none : Option D) = some d from e)), fun _ => rfl⟩
  | _, _, .cons (k := k') h r => by
    unfold valG valV
    simp only [List.find?]
    by_cases q : k' = k
    · simp only [q, decide_true]
      refine ⟨fun d e => ?_, fun e => ?_⟩
      · cases e; exact ⟨_, rfl, h⟩
      · cases e
    · simp only [q, decide_false]
      exact RepK.val (k := k) r
theorem RepK.any {k : Key} : ∀ {vs : List (Key × V)} {ds : List (Key × D)}, RepK K F vs ds → (vs.any fun p => decide (p.1 = k)) = ds.any fun p => decide (p.1 = k)
  | _, _, .nil => rfl
  | _, _, .cons h r => by simp only [List.any_cons]; rw [RepK.any r]
theorem RepK.len : ∀ {vs : List (Key × V)} {ds : List (Key × D)}, RepK K F vs ds → vs.length = ds.length
  | _, _, .nil => rfl
  | _, _, .cons _ r => congrArg (· + 1) (RepK.len r)
theorem RepK.app : ∀ {vs us : List (Key × V)} {ds es : List (Key × D)}, RepK K F vs ds → RepK K F us es → RepK K F (vs ++ us) (ds ++ es)
  | _, _, _, _, .nil, s => s
  | _, _, _, _, .cons h r, s => .cons h (RepK.app r s)
theorem RepK.repl {k : Key} {d : D} (q : Rep K F v d) : ∀ {vs : List (Key × V)} {ds : List (Key × D)}, RepK K F vs ds → RepK K F (vs.map fun p => if p.1 = k then (p.1, v) else p) (ds.map fun p => if p.1 = k then (p.1, d) else p)
  | _, _, .nil => .nil
  | _, _, .cons (k := k') h r => by
    simp only [List.map_cons]
    by_cases z : k' = k
    · rw [if_pos z, if_pos z]; exact .cons q (RepK.repl q r)
    · rw [if_neg z, if_neg z]; exact .cons h (RepK.repl q r)
theorem RepK.put {k : Key} {d : D} (q : Rep K F v d) {vs : List (Key × V)} {ds : List (Key × D)} (r : RepK K F vs ds) : RepK K F (putK vs k v) (putG ds k d) := by
  unfold putK putG
  rw [RepK.any r]
  split
  · exact RepK.repl q r
  · exact r.app (.cons q .nil)
end
section
variable {Φ : Fam} {W : WX} {o i e val : Expr} {pos pos' apos cpos : Pos}
def wIxD (wo wi : WO) : WE := fun δ Q E => wo δ (fun o1 δ1 => wi δ1 (fun o2 δ2 => match view δ2 o1, (view δ2 o2).bind keyD with
  | some (.dic kvs), some k => ∃ d, valG kvs k = some d ∧ Q (.d d) δ2
  | _, _ => False) E) E
def wInD (neg : Bool) (wi wo : WO) : WE := fun δ Q E => wi δ (fun o1 δ1 => wo δ1 (fun o2 δ2 => match (view δ2 o1).bind keyD, view δ2 o2 with
  | some k, some (.dic kvs) => Q (.d (.bl (neg ^^ (valG kvs k).isSome))) δ2
  | _, _ => False) E) E
def wGet2 (wo wi : WO) (wx : WF) : WE := fun δ Q E => wo δ (fun o1 δ1 => (match view δ1 o1 with
  | some (.dic _) => True
  | _ => False) ∧ wi δ1 (fun o2 δ2 => wx δ2 (fun x δ3 => match view δ3 o1, (view δ3 o2).bind keyD with
  | some (.dic kvs), some k => Q (.d ((valG kvs k).getD x)) δ3
  | _, _ => False) E) E) E
def wNewD : WE := fun δ Q _ => Q (.o (.k [])) δ
theorem de_newD : DE Φ W (.Dict [] [] pos) wNewD := ⟨_, fun _ => pe_dnewK, fun B F H σ δ Q E Qh r hw pp xl p hp =>
  pp (.ref p) F _ (.o (.k [])) δ (r.lay hp) (.lay hp) ⟨p, rfl, ⟨r.fnone hp, _, upd_same, .nil⟩, r.now hp, r.hnone hp, hp⟩ hw⟩
def wPutD (n : Nat) (wi wv : WF) : WS := fun M E δ => wv δ (fun x δ1 => (∃ c, ownOf δ1 n = some c) ∧ wi δ1 (fun y δ2 => match ownOf δ2 n, keyD y with
  | some (.k kvs), some k => kvs.length < sizeLine ∧ M.nx (keepKind δ2 n (.k (putG kvs k x)))
  | _, _ => False) E) E
end
end DL
namespace TX
open PySem PySem.Spec PyProof.Rows L2
def word (e : Int × Value) : Str := match e.2 with
  | .str x _ => x
  | _ => Str.empty
def GoodW (w : World) (e : Int × Value) : Prop := ∃ x tk, e.2 = Value.str x tk ∧ e.1 = hashStr w x
def Words (w : World) (h : Heap) (a : Addr) (xs : List Str) : Prop :=
  ∃ o es ep t, (h.get? a = some o ∧ o.ExactSet ∧ o.data = .set es ep t) ∧ (∀ e ∈ es.toList, GoodW w e) ∧ (es.toList.map word).Perm xs ∧ xs.Nodup ∧ es.size < scanBound ∧ t.fits es.size = true ∧ Ris t.place.toList ∧ (w.params.followText "set-order" = true ∨ t.led = true)
def once (acc : List Str) (x : Str) : List Str := if x ∈ acc then acc else acc ++ [x]
def onceOf (xs : List Str) : List Str := xs.foldl once []
section
variable {P : Program} {w : World} {A : Around} {E : Value → Shared → Prop} {s : Shared} {a : Addr} {xs : List Str} {h h' : Heap}
theorem Words.at (R : Words w h a xs) (k : ∀ o, h.get? a = some o → h'.get? a = some o) : Words w h' a xs :=
  let ⟨o, es, ep, t, ⟨ho, hx⟩, r⟩ := R
  ⟨o, es, ep, t, ⟨k o ho, hx⟩, r⟩
end
section
variable {prog : Program} {w : World} {A : Around} {R : Result → Shared → Prop} {I : Addr} {fp wr : List Addr} {G : Array GenState → Array GenState → Prop} {n : Nat} {P : Nat → Value → Prop} {St : Nat → Shared → Prop}
end
section
variable {prog : Program} {w : World} {A : Around} {E : Value → Shared → Prop} {s : Shared}
end
end TX
namespace TX
open PySem PySem.Spec PyProof.Rows L2
def leS (x y : Str) : Bool := PySem.W.dataLe false PyData.str x y
theorem leS_eq (x y : Str) : leS x y = decide (x.cps.toList ≤ y.cps.toList) := by
  unfold leS
  have h := PySem.W.dataLe_str (β := Str) (fun x => x)
  exact congrFun (congrFun h x) y
section
variable {P : Program} {w : World} {A : Around} {E : Value → Shared → Prop} {s : Shared} {a : Addr} {xs : List Str}
end
end TX
namespace DL
open PySem PySem.Spec L2 TX
section
variable {X : Cx} {a : Expr} {ta : TE} {p p2 q pos : Pos}
end
section
variable {Φ : Fam} {W : WX} {e : Expr} {p p2 q pos : Pos}
end
end DL
namespace DL
open PySem L2
open PyProof.Rows (envOfC)
structure Cz (Φ : Fam) (W : WX) (k : Nat) : Prop where
  nd : ∀ i, (Φ.X i).N.Nodup
  calm : ∀ i, (Φ.X i).calm = true
  tk : ∀ i, Takes (Φ.X i) W
  hr : ∀ i, Room k (Φ.X i).A
  hp : ∀ i, PassesOwn (model (Φ.X i).prog (Φ.X i).w) (Φ.X i).A (Φ.X i).env (Φ.X i).xe
section
variable {Φ : Fam} {W : WX} {k : Nat}
theorem Cz.hu (C : Cz Φ W k) : ∀ i, (Φ.X i).A.units + 64 < cLine := fun i => by
  have := (C.hr i).un
  omega
theorem Cz.rm (C : Cz Φ W k) {j : Nat} (h : j ≤ k) : ∀ i, Room j (Φ.X i).A := fun i => (C.hr i).mono h
theorem Cz.one {P : Program} {w : World} {K : PySem.W.Frag} {mg : Str → Option Value} {base : Heap} {N : List Str} {qual : Str} {scope : Scope} {f : Addr} {cdv : Value} {A : Around} {outer : List Env} {s : Shared} {H : Hp} {E : XK}
    (hr : Room k (A.deeper (envOfC qual scope s.heap.objs.size f cdv))) (nd : N.Nodup) : Cz (Fam.one (cxOf (L2.CX P w) P w K mg base N qual scope f cdv A outer s H E)) (fun cls d _ H' => E cls d H') k :=
  ⟨fun _ => nd, fun _ => rfl, fun _ => takes_of rfl rfl rfl rfl, fun _ => hr, fun _ => passes_of rfl⟩
theorem Cz.blk (C : Cz Φ W k) (scope : Scope) : Cz (Φ.blk scope) W0 k :=
  ⟨fun i => C.nd i.1, fun i => C.calm i.1, fun _ => takes_none5, fun i => C.hr i.1, fun _ => PassesOwn.never⟩
def IsFn (P : Program) (w : World) (K : PySem.W.Frag) (mg : Str → Option Value) (base : Heap) (x : Str) (k : Nat) (ps : List Str) (ds : DSp) : Prop :=
  ∃ f fd, mg x = some (.ref f) ∧ PySem.W.keepIn K (.ref f) = true ∧ Binds K fd ps [] ∧ FnOk P w K mg base (L2.CX P w) k f fd ps (toSp K ds)
theorem IsFn.mono {P : Program} {w : World} {K : PySem.W.Frag} {mg : Str → Option Value} {base : Heap} {x : Str} {j k : Nat} {ps : List Str} {ds : DSp} (F : IsFn P w K mg base x j ps ds) (h : j ≤ k) : IsFn P w K mg base x k ps ds := by
  obtain ⟨f, fd, h1, h2, h3, h4⟩ := F
  exact ⟨f, fd, h1, h2, h3, h4.mono h⟩
variable {x : Str} {ps : List Str} {ds : DSp} {j : Nat} {p pos : Pos} {e : Expr} {es : List Expr}
theorem c_call (C : Cz Φ W k) (F : ∀ i, IsFn (Φ.X i).prog (Φ.X i).w (Φ.X i).K (Φ.X i).mg (Φ.X i).base x j ps ds) {w : WL} (ha : DA Φ W (e :: es) w) (hj : j ≤ k := by decide)
    (hg : ∀ i, Gl (Φ.X i) x := by intro _; rfl) (hdb : (x == ("__debug__" : Str)) = false := by decide) (he : ∀ i, starEach (e :: es) (Φ.X i).env = (false, eval e (Φ.X i).env) :: starEach es (Φ.X i).env := by intro _; rfl) (hpl : ∀ i, (backTo pos (starEach es (Φ.X i).env)).any (·.1) = false := by intro _; rfl) :
    DE Φ W (.Call (.Name x p) (e :: es) [] pos) (wFn ds w) := by
  obtain ⟨t, h1, h2⟩ := ha
  refine ⟨tCallS (toSp Φ.K ds) (fun σ => L2.WE W σ) t, fun i => ?_, fun B F H σ δ Q E Qh r hw pp xl => ?_⟩
  · obtain ⟨f, fd, g1, g2, g3, g4⟩ := F i
    rw [← Φ.hK i]
    exact pe_callS g4 (C.rm hj i) (hg i) g1 g2 g3 (E := fun σ => L2.WE W σ) (fun σ => passAt (C.tk i) σ) (h1 i) hdb (he i) (hpl i)
  · refine h2 B F H σ δ _ E _ r hw (fun vs F1 H1 xs δ1 r1 s1 reps q => ?_) xl
    refine ⟨F1, [], argsD xs, _, _, r1.args reps, q, fun v F2 H2 sd α' r2 sr q2 => ?_, fun F2 H2 α' C dd f v y r2 hd hz rep q2 => ?_⟩
    · obtain ⟨r3, s3⟩ := r1.back r2
      exact pp v F2 H2 sd δ1 r3 (s1.trans s3) ((SR.back r1 r3 s3 sr).old fun _ z => s1.past z) q2
    · obtain ⟨r3, s3⟩ := r1.back r2
      exact xl F2 H2 δ1 C dd f v y r3 hd (r1.hnone hz) rep q2
theorem c_callP (C : Cz Φ W k) (F : ∀ i, IsFn (Φ.X i).prog (Φ.X i).w (Φ.X i).K (Φ.X i).mg (Φ.X i).base x j ps ds) (n : Nat) {y : Str} {p2 : Pos} {w : WL} (ha : DA Φ W es w) (hj : j ≤ k := by decide)
    (hN : ∀ j, (Φ.X j).N[n]? = some y := by intro _; rfl) (hv : ∀ j, Vis (Φ.X j).env.scope y := by intro _; first | exact Or.inl rfl | exact Or.inr (Or.inl rfl) | exact Or.inr (Or.inr rfl)) (hd : (y == ("__debug__" : Str)) = false := by decide)
    (hcd : (y == ("__classdict__" : Str)) = false := by decide)
    (hg : ∀ i, Gl (Φ.X i) x := by intro _; rfl) (hdb : (x == ("__debug__" : Str)) = false := by decide) (he : ∀ i, starEach (.Name y p2 :: es) (Φ.X i).env = (false, eval (.Name y p2) (Φ.X i).env) :: starEach es (Φ.X i).env := by intro _; rfl) (hpl : ∀ i, (backTo pos (starEach es (Φ.X i).env)).any (·.1) = false := by intro _; rfl) :
    DE Φ W (.Call (.Name x p) (.Name y p2 :: es) [] pos) (wFnP ds n w) := by
  obtain ⟨t, h1, h2⟩ := ha
  refine ⟨tCallS (toSp Φ.K ds) (fun σ => L2.WE W σ) (tCons (tVar n) t), fun i => ?_, fun B F H σ δ Q E Qh r hw pp xl => ?_⟩
  · obtain ⟨f, fd, g1, g2, g3, g4⟩ := F i
    rw [← Φ.hK i]
    exact pe_callS g4 (C.rm hj i) (hg i) g1 g2 g3 (E := fun σ => L2.WE W σ) (fun σ => passAt (C.tk i) σ) (pa_cons (pe_var (hN i) (hv i) hd hcd) (h1 i) (he i)) hdb (he i) (hpl i)
  · obtain ⟨⟨c0, hc0⟩, hw⟩ := hw
    obtain ⟨a, ha, _, _⟩ := ownOf_at r hc0
    refine ⟨_, ha, ?_⟩
    refine h2 B F H σ δ _ E _ r hw (fun vs F1 H1 xs δ1 r1 s1 reps q => ?_) xl
    split at q
    · rename_i c hc
      obtain ⟨a', ha', oa, ow⟩ := ownOf_at r1 hc
      rw [ha] at ha'; cases ha'
      have step : ∀ {F2 H2 : Hp} {c' : Cn} {τ : Dl}, RB Φ.K ⟨F1, H1, [a], (V.ref a :: vs).map some⟩ F2 H2 ((V.ref a :: vs).map some) (some (.p c') :: τ) → RB Φ.K B F2 H2 σ (keepKind δ1 n c') ∧ Stp σ δ1 (keepKind δ1 n c') F1 H1 F2 H2 := fun {F2 H2 c' τ} r2 => by
        obtain ⟨b, e1, e2, _, _⟩ := r2.par 0 c' rfl
        have e3 : a = b := by
          have z : (some (some (V.ref a)) : Option (Option V)) = some (some (V.ref b)) := e1
          injection z with z; injection z with z; injection z with z
        subst e3
        exact r1.chg hc ha r2.f0 r2.sub e2 (fun b o e n => r2.h0 b o e fun z => n (by simpa using z)) r2.nw
      refine ⟨F1, [a], some (.p c) :: argsD xs, _, _, r1.argsP oa reps, q, fun v F2 H2 sd α' r2 sr q2 => ?_, fun F2 H2 α' C dd f v y r2 hd hz rep q2 => ?_⟩
      · obtain ⟨c', τ, rfl, q3⟩ := hdP (R := fun c' => Q sd (keepKind δ1 n c')) q2
        obtain ⟨r3, s3⟩ := step r2
        refine pp v F2 H2 sd _ r3 (s1.trans s3) ?_ q3
        cases sd with
        | d x => exact sr
        | p c => exact sr.elim
        | o c =>
          obtain ⟨b, e1, e2, _, _, e5⟩ := sr
          exact ⟨b, e1, e2, fun z => r1.now e5 (s3.o b z), r1.hnone e5, s1.past e5⟩
      · obtain ⟨c', τ, rfl, q3⟩ := hdP (R := fun c' => E C f y (keepKind δ1 n c')) q2
        obtain ⟨r3, s3⟩ := step r2
        exact xl F2 H2 _ C dd f v y r3 hd (r1.hnone hz) rep q3
    · exact q.elim
end
end DL
namespace DL
open PySem L2
abbrev eF (w : WE) : WF := fun δ Q E => w δ (fun sd δ' => Q sd.fz δ') E
abbrev fO (w : WF) : WO := fun δ Q E => w δ (fun x δ' => Q (.x x) δ') E
abbrev fS (w : WF) : WE := fun δ Q E => w δ (fun x δ' => Q (.d x) δ') E
abbrev wNeg (w : WF) : WF := fun δ Q E => w δ (fun x δ' => match x with | .int i => Q (.int (-i)) δ' | _ => False) E
section
variable {Φ : Fam} {W : WX} {k : Nat} {e a o : Expr} {es : List Expr} {pos p pos2 apos p1 p2 p3 : Pos} {nm f : Str} {C : Addr}
def IsErr (P : Program) (K : PySem.W.Frag) (mg : Str → Option Value) (nm f : Str) (C : Addr) : Prop := ∃ qi fI, EX.ETxt P K mg nm qi f C fI
def nonB : D → Option Bool
  | .non => some true
  | .vv _ => none
  | .at _ _ => none
  | _ => some false
theorem PR.nonB {K : PySem.W.Frag} {F H : Hp} {v : V} {x : D} {b : Bool} (r : PR K F H v x) (h : nonB x = some b) : decide (v = .non) = b := by
  have hn : ∀ a, decide (V.ref a = .non) = false := fun a => decide_eq_false fun z => by cases z
  rcases r with r | ⟨a, c, rfl, rfl, _⟩
  · cases r <;> first | (cases h; first | rfl | exact hn _ | exact decide_eq_false fun z => (nomatch z)) | (cases h)
  · cases c <;> (cases h; exact hn a)
def sIsN (neg : Bool) : S1 := fun x Q => match nonB x with
  | some b => Q (.d (.bl (neg ^^ b)))
  | none => False
def wIsN (neg : Bool) (w : WO) : WE := fun δ Q E => w δ (fun o δ1 => match view δ1 o with
  | some x => sIsN neg x (fun sd => Q sd δ1)
  | none => False) E
def sListD : S1 := fun x Q => match x with
  | .dic kvs => Q (.o (.l (kvs.map fun p => dKey p.1)))
  | _ => False
def wMin2 (w : WL) : WE := fun δ Q E => w δ (fun xs δ' => match xs with
  | [.int i, .int j] => Q (.d (.int (if j < i then j else i))) δ'
  | _ => False) E
def wMax2 (w : WL) : WE := fun δ Q E => w δ (fun xs δ' => match xs with
  | [.int i, .int j] => Q (.d (.int (if j > i then j else i))) δ'
  | _ => False) E
def wRev (w : WO) : WE := fun δ Q E => w δ (fun o δ1 => match view δ1 o with
  | some (.lst xs) => Q (.o (.l xs.reverse)) δ1
  | _ => False) E
end
end DL
namespace DL
open PySem L2
section
variable {Φ : Fam} {W : WX} {k j : Nat} {e a b c o : Expr} {es : List Expr} {pos p pos2 apos p1 p2 p3 : Pos} {x m : Str} {C : Addr} {ps : List Str} {ds : DSp}
structure IsiC (K : PySem.W.Frag) (C : Addr) : Prop where
  cl : Cls K C
  ha : PySem.W.findIn K (.ref C) "__class__" = some (some (.builtin "object.__class__"))
  hn : PySem.W.specialIn K (.builtin "object.__class__") "__get__" = some (some (.builtin "getset_descriptor.__get__"))
  htk : PySem.W.takesIn K (.builtin "object.__class__") = some true
  hm : PySem.W.mroIn K C (.type "object") = some true
end
end DL
namespace DL
open PySem L2
section
variable {Φ : Fam} {W : WX} {a b c e tg : Expr} {pos : Pos}
abbrev WL3 := Dl → (SD → SD → SD → Dl → Prop) → XQ → Prop
def wThree (wa wb wc : WE) : WL3 := fun δ Q E => wa δ (fun x δ1 => wb δ1 (fun y δ2 => wc δ2 (fun z δ3 => Q x y z δ3) E) E) E
def wPar3 (i j l : Nat) (w : WL3) : WS := fun M E δ => w δ (fun x y z δ' => i < δ'.length ∧ j < δ'.length ∧ l < δ'.length ∧ M.nx (((δ'.set i (some x)).set j (some y)).set l (some z))) E
end
end DL
namespace DL
open PySem L2
section
variable {Φ : Fam} {W : WX} {a b c e i o tg : Expr} {pos p : Pos}
end
end DL
namespace DL
open PySem L2
section
variable {Φ : Fam} {W : WX} {a b c : Expr} {pos p : Pos}
end
end DL
namespace MX
open PySem PySem.W PySem.Spec PyProof.Rows
structure Mst (h0 h : Heap) (T I S : Addr) (its : Array Value) (i : Nat) (best : Array Value) : Prop where
  keep : ∀ c o, h0.get? c = some o → h.get? c = some o
  it : h.IsTupleIter I T i ∧ h.IsTuple T its
  bs : ∃ n, h.get? S = some (seqObj "list" best n)
section
variable {prog : Program} {w : World} {A : Around} {R : Result → Shared → Prop} {s : Shared} {h0 : Heap} {T I S : Addr} {its : Array Value} {i : Nat}
end
section
variable {prog : Program} {w : World} {A : Around} {E : Value → Shared → Prop} {s : Shared}
end
end MX
namespace DL
open PySem L2
section
variable {X : Cx} {a b : Expr} {ta : TA} {p p2 pos kpos : Pos}
end
section
variable {Φ : Fam} {W : WX} {a b : Expr} {p p2 pos kpos : Pos}
def wMaxLen (w : WL) : WE := fun δ Q E => w δ (fun xs δ' => match xs with
  | [.lst x, .lst y] => Q (.d (.lst (if y.length > x.length then y else x))) δ'
  | _ => False) E
end
end DL
namespace PySem.SeqAt
open AutoSeq1 (wpAny_loadPart')
open MeetsSeq MeetsSeq2 MeetsSeq3 SeqRoads2
section
variable {prog : Program} {w : World}
theorem dl_ne_loopIn (l b : Addr) (items items2 : Array Value) (n n2 : Nat) (dd dd2 : Option Addr) (sl sl2 : Array (Option Value)) (hsz : items.size = items2.size) (e : Nat → Bool) (k : Nat) :
    ∀ i : Nat, items.size - i = k → MeetsIn prog w (Builtin.«list.__eq__.loop» ⟨[.ref l, .ref b, rawInt i, rawInt 3], []⟩)
      (fun A R s => s.heap.get? l = some { cls := .type "list", dict := dd, data := .seq items n, slots := sl } ∧ s.heap.get? b = some { cls := .type "list", dict := dd2, data := .seq items2 n2, slots := sl2 } ∧
        (∀ j (h1 : j < items.size) (h2 : j < items2.size), EqP prog w A.in1 s items[j] items2[j] (e j)) ∧
        R (.ok (.ret (.bool (!((List.range items.size).drop i).all e)))) s) := by
  induction k with
  | zero =>
    intro i hk A R s h
    obtain ⟨hp, g, d, tk, os⟩ := s; obtain ⟨hl, hb, he, h⟩ := h
    wp_walk using wpAny_loadPart' hl, wpAny_loadPart' hb
    have hi1 : items[((i : Nat) : Int).toNat]? = none := by simp; omega
    have hi2 : items2[((i : Nat) : Int).toNat]? = none := by simp; omega
    have hd : (List.range items.size).drop i = [] := by simp; omega
    rw [hd] at h
    rw [hi1, hi2]
    wp_walk using wpAny_loadPart' hl, wpAny_loadPart' hb
    show R (.ok (.ret (.bool (items.size != items2.size)))) _
    rw [hsz]
    simpa using h
  | succ k ih =>
    intro i hk A R s h
    obtain ⟨hp, g, d, tk, os⟩ := s; obtain ⟨hl, hb, he, h⟩ := h
    wp_walk using wpAny_loadPart' hl, wpAny_loadPart' hb
    have hlt : i < items.size := by omega
    have hlt2 : i < items2.size := by omega
    have hi1 : items[((i : Nat) : Int).toNat]? = some items[i] := by simp [hlt]
    have hi2 : items2[((i : Nat) : Int).toNat]? = some items2[i] := by simp [hlt2]
    have hd : (List.range items.size).drop i = i :: (List.range items.size).drop (i + 1) := by simp [List.drop_eq_getElem_cons, hlt]
    have hc : ((i : Int) + 1) = ((i + 1 : Nat) : Int) := by push_cast; rfl
    rw [hd, List.all_cons] at h
    rw [hi1, hi2]
    refine wpAny_bind (he i hlt hlt2 _ _ ?_)
    cases hb' : e i with
    | true =>
      rw [hb'] at h
      wp_walk
      rw [hc]
      exact ⟨plainId_quiet plain_eq_loop _, codeAny_builtin entry_eq_loop (by
        rw [Around.under_plainId plain_eq_loop _]
        exact ih (i + 1) (by omega) A R _ ⟨hl, hb, he, by simpa using h⟩)⟩
    | false =>
      rw [hb'] at h
      wp_walk using wpAny_loadPart' hl, wpAny_loadPart' hb
      rw [hi1, hi2]
      wp_walk
      simpa using h
theorem dl_list_neIn (l b : Addr) (items items2 : Array Value) (n n2 : Nat) (dd dd2 : Option Addr) (sl sl2 : Array (Option Value)) (hsz : items.size = items2.size) (e : Nat → Bool) :
    MeetsIn prog w (Builtin.«list.__ne__» ⟨[.ref l, .ref b], []⟩)
      (fun A R s => s.heap.get? l = some { cls := .type "list", dict := dd, data := .seq items n, slots := sl } ∧ s.heap.get? b = some { cls := .type "list", dict := dd2, data := .seq items2 n2, slots := sl2 } ∧
        (∀ j (h1 : j < items.size) (h2 : j < items2.size), EqP prog w A.in1 s items[j] items2[j] (e j)) ∧
        R (.ok (.ret (.bool (!(List.range items.size).all e)))) s) := by
  intro A R s h
  obtain ⟨hp, g, d, tk, os⟩ := s; obtain ⟨hl, hb, he, h⟩ := h
  have f3 := AutoSeq1.sub_list_list
  have hne : ¬ (items.size != items2.size) = true := by simp [hsz]
  wp_walk using wpAny_loadPart' hl, wpAny_loadPart' hb
  exact ⟨plainId_quiet plain_eq_loop _, codeAny_builtin entry_eq_loop (by
    rw [Around.under_plainId plain_eq_loop _]
    exact dl_ne_loopIn l b items items2 n n2 dd dd2 sl sl2 hsz e _ 0 rfl A R _ ⟨hl, hb, he, by simpa using h⟩)⟩
theorem neP_lists {A : Around} {s : Shared} {l b : Addr} {items items2 : Array Value} {e : Nat → Bool} (hl : s.heap.IsList l items) (hb : s.heap.IsList b items2) (hsz : items.size = items2.size) (hu : A.units < cLine)
    (he : ∀ j (h1 : j < items.size) (h2 : j < items2.size), EqP prog w A.in1 s items[j] items2[j] (e j)) (E Q : Value → Shared → Prop) (h : Q (.bool (!(List.range items.size).all e)) s) : wpAny (model prog w) A (richCompare .NotEq (.ref l) (.ref b)) Q E s := by
  obtain ⟨⟨cls, dd, data, sl⟩, ho, hc, n, hd⟩ := id hl
  obtain ⟨⟨cls2, dd2, data2, sl2⟩, ho2, hc2, n2, hd2⟩ := id hb
  simp only at hc hd hc2 hd2
  subst hc hd hc2 hd2
  have ta : s.TypeIs (.ref l) "list" := ⟨_, ho, rfl⟩
  have tb : s.TypeIs (.ref b) "list" := ⟨_, ho2, rfl⟩
  exact wpAny_richCompare_same_room (op := .NotEq) ta tb F.slot_list_ne (call_meetsIn F.slot_list_ne ta F.entry_list_ne (F.args_list_ne_2 _ _) (dl_list_neIn l b items items2 n n2 dd dd2 sl sl2 hsz e)
    ⟨ho, ho2, he, show Value.bool (!(List.range items.size).all e) ≠ Value.notImplemented ∧ Q (.bool (!(List.range items.size).all e)) s from ⟨(fun x => nomatch x), h⟩⟩) hu
end
end PySem.SeqAt
namespace DL
open PySem L2
def plainEq (x y : D) : Option Bool := if eqOk x && eqOk y then some (deq x y) else none
def allO (f : D → D → Option Bool) : List D → List D → Option Bool
  | x :: xs, y :: ys => match f x y, allO f xs ys with
    | some a, some b => some (a && b)
    | _, _ => none
  | _, _ => some true
def dicO (f : D → D → Option Bool) (kb : List (Key × D)) : List (Key × D) → Option Bool
  | [] => some true
  | (k, v) :: r => match valG kb k with
    | none => some false
    | some y => match f v y, dicO f kb r with
      | some a, some b => some (a && b)
      | _, _ => none
def geqN : Nat → D → D → Option Bool
  | 0, x, y => plainEq x y
  | n + 1, x, y => match plainEq x y with
    | some b => some b
    | none => match x, y with
      | .lst xs, .lst ys => if xs.length = ys.length then allO (geqN n) xs ys else some false
      | .dic a, .dic b => if (a.map (·.1)).Nodup then (if a.length = b.length then dicO (geqN n) b a else some false) else none
      | .at a _, .at b _ => if a = b then some true else none
      | _, _ => none
section
variable {K : PySem.W.Frag} {F : Hp}
mutual
theorem Rep.toP_same : ∀ {x y : D} {v : V} {p q : PyData}, Rep K F v x → Rep K F v y → toP x = some p → toP y = some q → p = q
  | .non, _, _, _, _, r, r', h, h' => by
    cases r; cases r' <;> first | (simp only [toP] at h h'; cases h; cases h'; rfl) | (simp only [toP] at h'; cases h')
  | .bl b, _, _, _, _, r, r', h, h' => by
    cases r; cases r' <;> first | (simp only [toP] at h h'; cases h; cases h'; rfl) | (simp only [toP] at h'; cases h')
  | .int i, _, _, _, _, r, r', h, h' => by
    cases r; cases r' <;> first | (simp only [toP] at h h'; cases h; cases h'; rfl) | (simp only [toP] at h'; cases h')
  | .str z, _, _, _, _, r, r', h, h' => by
    cases r; cases r' <;> first | (simp only [toP] at h h'; cases h; cases h'; rfl) | (simp only [toP] at h'; cases h')
  | .lst xs, y, _, _, _, r, r', h, h' => by
    cases r with
    | lst e1 l1 =>
      cases r' with
      | lst e2 l2 =>
        rw [e1] at e2; cases e2
        simp only [toP] at h h'
        split at h
        · split at h'
          · rename_i ps ep _ qs eq
            cases h; cases h'
            rw [RepL.toP_same l1 l2 ep eq]
          · cases h'
        · cases h
      | tup e2 l2 => rw [e1] at e2; cases e2
      | _ => simp only [toP] at h'; cases h'
  | .tup xs, y, _, _, _, r, r', h, h' => by
    cases r with
    | tup e1 l1 =>
      cases r' with
      | tup e2 l2 =>
        rw [e1] at e2; cases e2
        simp only [toP] at h h'
        split at h
        · split at h'
          · rename_i ps ep _ qs eq
            cases h; cases h'
            rw [RepL.toP_same l1 l2 ep eq]
          · cases h'
        · cases h
      | lst e2 l2 => rw [e1] at e2; cases e2
      | _ => simp only [toP] at h'; cases h'
  | .dic _, _, _, _, _, _, _, h, _ => by simp only [toP] at h; cases h
  | .dct _, _, _, _, _, _, _, h, _ => by simp only [toP] at h; cases h
  | .obj _ _, _, _, _, _, _, _, h, _ => by simp only [toP] at h; cases h
  | .scr _, _, _, _, _, _, _, h, _ => by simp only [toP] at h; cases h
  | .vv _, _, _, _, _, _, _, h, _ => by simp only [toP] at h; cases h
  | .exc _ _ _ _ _, _, _, _, _, _, _, h, _ => by simp only [toP] at h; cases h
  | .err _ _ _, _, _, _, _, _, _, h, _ => by simp only [toP] at h; cases h
  | .at _ _, _, _, _, _, _, _, h, _ => by simp only [toP] at h; cases h
theorem RepL.toP_same : ∀ {xs ys : List D} {vs : List V} {ps qs : List PyData}, RepL K F vs xs → RepL K F vs ys → toPs xs = some ps → toPs ys = some qs → ps = qs
  | [], _, _, _, _, r, r', h, h' => by
    cases r; cases r'
    simp only [toPs] at h h'
    cases h; cases h'; rfl
  | x :: xs, _, _, _, _, r, r', h, h' => by
    cases r with
    | cons a b =>
      cases r' with
      | cons a' b' =>
        simp only [toPs] at h h'
        split at h
        · split at h'
          · rename_i p ps e1 e2 _ _ q qs e3 e4
            cases h; cases h'
            rw [Rep.toP_same a a' e1 e3, RepL.toP_same b b' e2 e4]
          · cases h'
        · cases h
end
theorem plainEq_same {x y : D} {v : V} {b : Bool} (r : Rep K F v x) (r' : Rep K F v y) (h : plainEq x y = some b) : b = true := by
  unfold plainEq at h
  split at h
  · rename_i e
    obtain ⟨e1, e2⟩ := Bool.and_eq_true_iff.mp e
    obtain ⟨p, hp, _⟩ := eqOk_some e1
    obtain ⟨q, hq, _⟩ := eqOk_some e2
    cases h
    rw [deq_of hp hq, r.toP_same r' hp hq]
    exact PySem.SeqAt.eqv_refl_plain q (toP_plain hq)
  · cases h
theorem valG_nodup : ∀ {vs : List (Key × V)} {as ds : List (Key × D)}, RepK K F vs as → RepK K F vs ds → (as.map (·.1)).Nodup → ∀ (p : Key × D), p ∈ as → ∃ v y, valG ds p.1 = some y ∧ Rep K F v p.2 ∧ Rep K F v y
  | [], _, _, .nil, _, _, p, hp => nomatch hp
  | (k, v) :: vs, (_, d) :: as, (_, d') :: ds, .cons hd ht, .cons hd' ht', nd, p, hp => by
    simp only [List.map_cons, List.nodup_cons] at nd
    rcases List.mem_cons.mp hp with rfl | hp
    · refine ⟨v, d', ?_, hd, hd'⟩
      unfold valG
      simp
    · obtain ⟨w, y, e1, e2, e3⟩ := valG_nodup ht ht' nd.2 p hp
      refine ⟨w, y, ?_, e2, e3⟩
      have ne : ¬ k = p.1 := fun z => nd.1 (z ▸ List.mem_map_of_mem hp)
      unfold valG at e1 ⊢
      rw [List.find?_cons]
      simp only [ne, decide_false]
      exact e1
theorem allO_same {f : D → D → Option Bool} (hf : ∀ {x y : D} {v : V} {b : Bool}, Rep K F v x → Rep K F v y → f x y = some b → b = true) : ∀ {vs : List V} {xs ys : List D} {b : Bool}, RepL K F vs xs → RepL K F vs ys → allO f xs ys = some b → b = true
  | [], _, _, _, .nil, .nil, h => by cases h; rfl
  | _ :: _, _, _, _, .cons a t, .cons a' t', h => by
    unfold allO at h
    split at h
    · rename_i p q e1 e2
      cases h
      rw [hf a a' e1, allO_same hf t t' e2]
      rfl
    · cases h
theorem dicO_same {f : D → D → Option Bool} {kb : List (Key × D)} (hf : ∀ {x y : D} {v : V} {b : Bool}, Rep K F v x → Rep K F v y → f x y = some b → b = true) : ∀ {as : List (Key × D)} {b : Bool}, (∀ p ∈ as, ∃ v y, valG kb p.1 = some y ∧ Rep K F v p.2 ∧ Rep K F v y) → dicO f kb as = some b → b = true
  | [], _, _, h => by cases h; rfl
  | (k, d) :: r, b, hp, h => by
    obtain ⟨v, y, e1, e2, e3⟩ := hp _ List.mem_cons_self
    unfold dicO at h
    simp only at e1
    rw [e1] at h
    simp only at h
    split at h
    · rename_i p q e4 e5
      cases h
      rw [hf e2 e3 e4, dicO_same hf (fun p hp' => hp p (List.mem_cons_of_mem _ hp')) e5]
      rfl
    · cases h
theorem geq_same : ∀ (n : Nat) {x y : D} {v : V} {b : Bool}, Rep K F v x → Rep K F v y → geqN n x y = some b → b = true
  | 0, _, _, _, _, r, r', h => plainEq_same r r' h
  | n + 1, x, y, v, b, r, r', h => by
    unfold geqN at h
    split at h
    · rename_i b' e
      cases h
      exact plainEq_same r r' e
    · split at h
      · rename_i xs ys _
        cases r with
        | lst e1 l1 =>
          cases r' with
          | lst e2 l2 =>
            rw [e1] at e2; cases e2
            rw [if_pos (by rw [← l1.len, ← l2.len])] at h
            exact allO_same (geq_same n) l1 l2 h
      · rename_i ka kb _
        split at h
        · rename_i nd
          cases r with
          | dic e1 l1 =>
            cases r' with
            | dic e2 l2 =>
              rw [e1] at e2; cases e2
              rw [if_pos (by rw [← l1.len, ← l2.len])] at h
              exact dicO_same (geq_same n) (valG_nodup l1 l2 nd) h
        · cases h
      · split at h
        · cases h; rfl
        · cases h
      · cases h
end
section
variable {X : Cx} {pins : List (Addr × Obj)} {σ : St} {F H : Hp} {s : Shared}
theorem allO_len {f : D → D → Option Bool} : ∀ {xs ys : List D} {b : Bool}, xs.length = ys.length → allO f xs ys = some b → ∃ e : Nat → Bool, (∀ j (h1 : j < xs.length) (h2 : j < ys.length), f xs[j] ys[j] = some (e j)) ∧ b = (List.range xs.length).all e
  | [], [], _, _, h => by cases h; exact ⟨fun _ => true, fun j h1 => absurd h1 (Nat.not_lt_zero j), rfl⟩
  | x :: xs, y :: ys, b, hl, h => by
    unfold allO at h
    split at h
    · rename_i p q e1 e2
      cases h
      obtain ⟨e, h1, h2⟩ := allO_len (by simpa using hl) e2
      refine ⟨fun j => match j with | 0 => p | j + 1 => e j, fun j g1 g2 => ?_, ?_⟩
      · cases j with
        | zero => exact e1
        | succ j => exact h1 j (Nat.lt_of_succ_lt_succ g1) (Nat.lt_of_succ_lt_succ g2)
      · rw [h2, List.length_cons, List.range_succ_eq_map, List.all_cons, List.all_map]
        rfl
    · cases h
  | [], _ :: _, _, hl, _ => by cases hl
  | _ :: _, [], _, hl, _ => by cases hl
theorem geq_run (I : Inv X pins σ H s) (sub : Same F H) : ∀ (n : Nat) (A : Around), A.units + n + 45 < cLine → ∀ {x y : D} {v u : V} {v' u' : Value} {b : Bool}, Rep X.K F v x → Rep X.K F u y → RelV v v' → RelV u u' → geqN n x y = some b → SeqAt.EqP X.prog X.w A s v' u' b := by
  have plain : ∀ (A : Around), A.units + 45 < cLine → ∀ {x y : D} {v u : V} {v' u' : Value} {b : Bool}, Rep X.K F v x → Rep X.K F u y → RelV v v' → RelV u u' → plainEq x y = some b → SeqAt.EqP X.prog X.w A s v' u' b := by
    intro A hu x y v u v' u' b r r' rv ru h
    unfold plainEq at h
    split at h
    · rename_i e
      obtain ⟨e1, e2⟩ := Bool.and_eq_true_iff.mp e
      obtain ⟨p, hp, dp⟩ := eqOk_some e1
      obtain ⟨q, hq, _⟩ := eqOk_some e2
      cases h
      rw [deq_of hp hq]
      obtain ⟨as, r1⟩ := Dp.reads I p v v' (r.dp sub hp) rv
      obtain ⟨bs, r2⟩ := Dp.reads I q u u' (r'.dp sub hq) ru
      exact (SeqAt.eqAt_plain p q A s v' u' as bs r1 r2 (toP_plain hp) (toP_plain hq) (by have := Nat.min_le_left p.depth q.depth; omega)).eqP
    · cases h
  intro n
  induction n with
  | zero => intro A hu x y v u v' u' b r r' rv ru h; exact plain A (by omega) r r' rv ru h
  | succ n ih =>
    intro A hu x y v u v' u' b r r' rv ru h
    have same := fun (e : v = u) => geq_same (n + 1) r (e ▸ r') h
    unfold geqN at h
    split at h
    · rename_i b' e
      cases h
      exact plain A (by omega) r r' rv ru e
    · split at h
      · rename_i xs ys _
        cases r with
        | @lst a vs _ e1 l1 =>
          cases r' with
          | @lst c us _ e2 l2 =>
            cases (show v' = Value.ref a from rv)
            cases (show u' = Value.ref c from ru)
            by_cases hac : a = c
            · subst hac
              rw [same rfl]
              exact (SeqAt.EqAt.same _).eqP
            · obtain ⟨its, q1, p1, _⟩ := I.list (.of (sub _ _ e1))
              obtain ⟨jts, q2, p2, _⟩ := I.list (.of (sub _ _ e2))
              have n1 : its.length = xs.length := by rw [← q1.length, l1.len]
              have n2 : jts.length = ys.length := by rw [← q2.length, l2.len]
              split at h
              · rename_i hl
                obtain ⟨e, h1, rfl⟩ := allO_len hl h
                refine SeqAt.eqP_refs hac fun E Q q => SeqAt.rcP_lists (e := e) p1.isList p2.isList (by simp only [List.size_toArray]; omega) (by omega) (fun j g1 g2 => ?_) E Q (by
                  simp only [List.size_toArray]
                  rw [n1]; exact q)
                simp only [List.size_toArray] at g1 g2
                obtain ⟨x1, hx1, rx1⟩ := l1.get' (i := j) (v := vs[j]'(by rw [l1.len, ← n1]; exact g1)) (List.getElem?_eq_getElem _)
                obtain ⟨y1, hy1, ry1⟩ := l2.get' (i := j) (v := us[j]'(by rw [l2.len, ← n2]; exact g2)) (List.getElem?_eq_getElem _)
                have hx2 : xs[j]'(by omega) = x1 := by
                  have := List.getElem?_eq_getElem (l := xs) (i := j) (by omega)
                  rw [hx1] at this; exact (Option.some.inj this).symm
                have hy2 : ys[j]'(by omega) = y1 := by
                  have := List.getElem?_eq_getElem (l := ys) (i := j) (by omega)
                  rw [hy1] at this; exact (Option.some.inj this).symm
                have hf := h1 j (by omega) (by omega)
                rw [hx2, hy2] at hf
                have k1 := q1.get (i := j) (x := vs[j]'(by rw [l1.len, ← n1]; exact g1)) (List.getElem?_eq_getElem _)
                have k2 := q2.get (i := j) (x := us[j]'(by rw [l2.len, ← n2]; exact g2)) (List.getElem?_eq_getElem _)
                obtain ⟨w1, k1, k3⟩ := k1
                obtain ⟨w2, k2, k4⟩ := k2
                have z1 : its[j] = w1 := by
                  have := List.getElem?_eq_getElem (l := its) (i := j) g1
                  rw [k1] at this; exact (Option.some.inj this).symm
                have z2 : jts[j] = w2 := by
                  have := List.getElem?_eq_getElem (l := jts) (i := j) g2
                  rw [k2] at this; exact (Option.some.inj this).symm
                have z := ih A.in1 (by show A.units + 1 + n + 45 < cLine; omega) rx1 ry1 k3 k4 hf
                simp only [List.getElem_toArray]
                rw [z1, z2]
                exact z
              · rename_i hl
                cases h
                refine SeqAt.eqP_refs hac fun E Q q => SeqAt.RcAt.lists_lengths p1.isList p2.isList (by simp only [List.size_toArray, bne_iff_ne]; omega) (by omega) X.prog X.w E Q q
      · rename_i ka kb _
        split at h
        · rename_i nd
          cases r with
          | @dic a vs _ e1 l1 =>
            cases r' with
            | @dic c us _ e2 l2 =>
              cases (show v' = Value.ref a from rv)
              cases (show u' = Value.ref c from ru)
              by_cases hac : a = c
              · subst hac
                rw [same rfl]
                exact (SeqAt.EqAt.same _).eqP
              · obtain ⟨_, ya, va, ra, da⟩ := (show ObjOk X.prog X.w H s.heap a (.dK vs) from I.hok a _ (sub _ _ e1))
                obtain ⟨_, yb, vb, rb, db⟩ := (show ObjOk X.prog X.w H s.heap c (.dK us) from I.hok c _ (sub _ _ e2))
                have n1 : va.length = ka.length := by rw [← ra.length, l1.len]
                have n2 : vb.length = kb.length := by rw [← rb.length, l2.len]
                have hits : ∀ {vs : List (Key × V)} {va : List (Key × Value)} {ka : List (Key × D)} {b : Bool}, KV vs va → RepK X.K F vs ka → dicO (geqN n) kb ka = some b → PySem.W.KeqHitsP X.prog X.w A.in1 s vb va b := by
                  intro vs va ka b ra
                  unfold KV at ra
                  induction ra generalizing ka b with
                  | nil => intro l h; cases l; cases h; exact .nil
                  | @cons p q ps qs hpq t ih2 =>
                    intro l h
                    obtain ⟨pk, pv⟩ := p
                    obtain ⟨qk, qv⟩ := q
                    obtain ⟨h1, h2⟩ := hpq
                    have h1' : pk = qk := h1
                    subst h1'
                    cases l with
                    | @cons _ _ _ d ds hd ht =>
                      unfold dicO at h
                      split at h
                      · rename_i en
                        cases h
                        refine .miss ?_
                        have e := (l2.val (k := pk)).2 en
                        have rr : RelO (valV us pk) (valueAt vb pk) := rb.val pk
                        rw [e] at rr
                        cases z : valueAt vb pk with
                        | none => rfl
                        | some w => rw [z] at rr; exact rr.elim
                      · rename_i y ey
                        split at h
                        · rename_i b1 b2 g1 g2
                          cases h
                          obtain ⟨yv, e, ry⟩ := (l2.val (k := pk)).1 y ey
                          have rr : RelO (valV us pk) (valueAt vb pk) := rb.val pk
                          rw [e] at rr
                          obtain ⟨w, hw, rw'⟩ := rr.some_of
                          exact .hit hw (ih A.in1 (by show A.units + 1 + n + 45 < cLine; omega) hd ry h2 rw' g1) (ih2 ht g2)
                        · cases h
                split at h
                · rename_i hl
                  refine SeqAt.eqP_refs hac fun E Q q => PySem.W.rcP_dicts (knd := mixKind X.prog X.w) ya yb da db (by omega) (fun _ => hits ra l1 h) E Q ?_
                  rw [show (va.length == vb.length && b) = b from by rw [show va.length = vb.length by omega]; simp]
                  exact q
                · rename_i hl
                  cases h
                  refine SeqAt.eqP_refs hac fun E Q q => PySem.W.rcP_dicts (knd := mixKind X.prog X.w) (r := false) ya yb da db (by omega) (fun e => absurd (by omega) hl) E Q ?_
                  rw [show (va.length == vb.length && false) = false from by simp]
                  exact q
        · cases h
      · rename_i c1 y1 c2 y2 _
        split at h
        · rename_i eab
          subst eab
          cases h
          cases r with
          | «at» _ =>
            cases r' with
            | «at» _ =>
              cases (show v' = Value.ref c1 from rv)
              cases (show u' = Value.ref c1 from ru)
              exact (SeqAt.EqAt.same _).eqP
        · cases h
      · cases h
end
end DL
namespace DL
open PySem L2
section
variable {X : Cx} {pins : List (Addr × Obj)} {σ : St} {F H : Hp} {s : Shared}
theorem items_geq (I : Inv X pins σ H s) (sub : Same F H) {n : Nat} {A : Around} (hu : A.units + n + 45 < cLine) {vs us : List V} {xs ys : List D} {its jts : List Value} {b : Bool} (l1 : RepL X.K F vs xs) (l2 : RepL X.K F us ys) (q1 : Vals vs its) (q2 : Vals us jts)
    (hl : xs.length = ys.length) (h : allO (geqN n) xs ys = some b) : ∃ e : Nat → Bool, (∀ j (h1 : j < its.toArray.size) (h2 : j < jts.toArray.size), SeqAt.EqP X.prog X.w A s its.toArray[j] jts.toArray[j] (e j)) ∧ b = (List.range its.toArray.size).all e := by
  have n1 : its.length = xs.length := by rw [← q1.length, l1.len]
  have n2 : jts.length = ys.length := by rw [← q2.length, l2.len]
  obtain ⟨e, h1, rfl⟩ := allO_len hl h
  refine ⟨e, fun j g1 g2 => ?_, by simp only [List.size_toArray]; rw [n1]⟩
  simp only [List.size_toArray] at g1 g2
  obtain ⟨x1, hx1, rx1⟩ := l1.get' (i := j) (v := vs[j]'(by rw [l1.len, ← n1]; exact g1)) (List.getElem?_eq_getElem _)
  obtain ⟨y1, hy1, ry1⟩ := l2.get' (i := j) (v := us[j]'(by rw [l2.len, ← n2]; exact g2)) (List.getElem?_eq_getElem _)
  have hx2 : xs[j]'(by omega) = x1 := by
    have := List.getElem?_eq_getElem (l := xs) (i := j) (by omega)
    rw [hx1] at this; exact (Option.some.inj this).symm
  have hy2 : ys[j]'(by omega) = y1 := by
    have := List.getElem?_eq_getElem (l := ys) (i := j) (by omega)
    rw [hy1] at this; exact (Option.some.inj this).symm
  have hf := h1 j (by omega) (by omega)
  rw [hx2, hy2] at hf
  obtain ⟨w1, k1, k3⟩ := q1.get (i := j) (x := vs[j]'(by rw [l1.len, ← n1]; exact g1)) (List.getElem?_eq_getElem _)
  obtain ⟨w2, k2, k4⟩ := q2.get (i := j) (x := us[j]'(by rw [l2.len, ← n2]; exact g2)) (List.getElem?_eq_getElem _)
  have z1 : its[j] = w1 := by
    have := List.getElem?_eq_getElem (l := its) (i := j) g1
    rw [k1] at this; exact (Option.some.inj this).symm
  have z2 : jts[j] = w2 := by
    have := List.getElem?_eq_getElem (l := jts) (i := j) g2
    rw [k2] at this; exact (Option.some.inj this).symm
  simp only [List.getElem_toArray]
  rw [z1, z2]
  exact geq_run I sub n A hu rx1 ry1 k3 k4 hf
theorem lists_run (I : Inv X pins σ H s) (sub : Same F H) {n : Nat} (hu : X.A.units + n + 46 < cLine) {a c : Addr} {vs us : List V} {xs ys : List D} {b : Bool} (h1 : SqL X.K H a vs) (h2 : SqL X.K H c us) (l1 : RepL X.K F vs xs) (l2 : RepL X.K F us ys)
    (h : (if xs.length = ys.length then allO (geqN n) xs ys else some false) = some b) (E Q : Value → Shared → Prop) :
    (Q (.bool b) s → wpAny (model X.prog X.w) X.A (richCompare .Eq (.ref a) (.ref c)) Q E s) ∧ (Q (.bool (!b)) s → wpAny (model X.prog X.w) X.A (richCompare .NotEq (.ref a) (.ref c)) Q E s) := by
  obtain ⟨its, q1, p1, _⟩ := I.list h1
  obtain ⟨jts, q2, p2, _⟩ := I.list h2
  have n1 : its.length = xs.length := by rw [← q1.length, l1.len]
  have n2 : jts.length = ys.length := by rw [← q2.length, l2.len]
  have hA : X.A.in1.units + n + 45 < cLine := by show X.A.units + 1 + n + 45 < cLine; omega
  split at h
  · rename_i hl
    obtain ⟨e, k1, rfl⟩ := items_geq I sub hA l1 l2 q1 q2 hl h
    exact ⟨fun q => SeqAt.rcP_lists (e := e) p1.isList p2.isList (by simp only [List.size_toArray]; omega) (by omega) k1 E Q q,
      fun q => SeqAt.neP_lists (e := e) p1.isList p2.isList (by simp only [List.size_toArray]; omega) (by omega) k1 E Q q⟩
  · rename_i hl
    cases h
    exact ⟨fun q => SeqAt.RcAt.lists_lengths p1.isList p2.isList (by simp only [List.size_toArray, bne_iff_ne]; omega) (by omega) X.prog X.w E Q q,
      fun q => SeqAt.RcNeAt.lists_lengths p1.isList p2.isList (by simp only [List.size_toArray, bne_iff_ne]; omega) (by omega) X.prog X.w E Q q⟩
end
def geqT (x y : D) : Option Bool := match plainEq x y with
  | some b => some b
  | none => match x, y with
    | .lst xs, .lst ys => if xs.length = ys.length then allO (geqN 10) xs ys else some false
    | _, _ => none
def sEqX (neg : Bool) : S2 := fun x y Q => match geqT x y with
  | some b => Q (.d (.bl (neg ^^ b)))
  | none => False
section
variable {Φ : Fam} {W : WX} {o i a b e : Expr} {pos p : Pos}
def rEqX (K : PySem.W.Frag) (neg : Bool) : R2 := fun v u H Q => ∃ F a c vs us xs ys b, Same F H ∧ v = .ref a ∧ u = .ref c ∧ H a = some (.lst vs) ∧ H c = some (.lst us) ∧ RepL K F vs xs ∧ RepL K F us ys ∧ (if xs.length = ys.length then allO (geqN 10) xs ys else some false) = some b ∧ Q (.bl (neg ^^ b)) H
theorem op_eqX {X : Cx} (hu : X.A.units + 64 < cLine) : OpR X (compareOp .Eq) (rEqX X.K false) := by
  intro pins s σ H x y v u Q I rx ry h
  obtain ⟨F, a, c, vs, us, xs, ys, b, sub, rfl, rfl, h1, h2, l1, l2, h, q⟩ := h
  cases (show v = Value.ref a from rx)
  cases (show u = Value.ref c from ry)
  exact (lists_run I sub (n := 10) (by omega) (.of h1) (.of h2) l1 l2 h _ _).1 ⟨.bl _, H, I, rfl, by simpa using q⟩
theorem op_neX {X : Cx} (hu : X.A.units + 64 < cLine) : OpR X (compareOp .NotEq) (rEqX X.K true) := by
  intro pins s σ H x y v u Q I rx ry h
  obtain ⟨F, a, c, vs, us, xs, ys, b, sub, rfl, rfl, h1, h2, l1, l2, h, q⟩ := h
  cases (show v = Value.ref a from rx)
  cases (show u = Value.ref c from ry)
  exact (lists_run I sub (n := 10) (by omega) (.of h1) (.of h2) l1 l2 h _ _).2 ⟨.bl _, H, I, rfl, by simpa using q⟩
theorem plainEq_some {x y : D} {b : Bool} (h : plainEq x y = some b) : eqOk x = true ∧ eqOk y = true ∧ b = deq x y := by
  unfold plainEq at h
  split at h
  · rename_i e
    obtain ⟨e1, e2⟩ := Bool.and_eq_true_iff.mp e
    cases h
    exact ⟨e1, e2, rfl⟩
  · cases h
theorem bin_X {f : Value → Value → Sem Value} {neg : Bool} (h1 : ∀ i, OpR (Φ.X i) f (rEqP (Φ.X i).K neg)) (h2 : ∀ i, OpR (Φ.X i) f (rEqX (Φ.X i).K neg)) : BinD Φ f (sEqX neg) := by
  refine ⟨_, fun i => OpR.or (r := rEqP Φ.K neg) (r' := rEqX Φ.K neg) (by have h := h1 i; rw [Φ.hK i] at h; exact h) (by have h := h2 i; rw [Φ.hK i] at h; exact h), fun B F H σ δ x y v u Q Qh r hx hy hs p => ?_⟩
  unfold sEqX at hs
  split at hs
  · rename_i b eb
    unfold geqT at eb
    split at eb
    · rename_i b' e
      cases eb
      obtain ⟨h1, h2, rfl⟩ := plainEq_some e
      obtain ⟨px, e1, d1⟩ := eqOk_some h1
      obtain ⟨py, e2, d2⟩ := eqOk_some h2
      rw [deq_of e1 e2] at hs
      refine .inl ⟨px, py, hx.dp r.sub e1, hy.dp r.sub e2, toP_plain e1, toP_plain e2, d1, p.dat r (.bl _) ?_⟩
      cases neg <;> simpa using hs
    · split at eb
      · rename_i xs ys _
        obtain ⟨a, vs, rfl, g1, l1⟩ := hx.lst r.sub
        obtain ⟨c, us, rfl, g2, l2⟩ := hy.lst r.sub
        exact .inr ⟨F, a, c, vs, us, xs, ys, b, r.sub, rfl, rfl, g1, g2, l1, l2, eb, p.dat r (.bl _) hs⟩
      · cases eb
  · exact hs.elim
theorem bin_eqX (hu : ∀ i, (Φ.X i).A.units + 64 < cLine) : BinD Φ (compareOp .Eq) (sEqX false) := bin_X (fun i => op_eqP (hu i)) fun i => op_eqX (hu i)
theorem bin_neX (hu : ∀ i, (Φ.X i).A.units + 64 < cLine) : BinD Φ (compareOp .NotEq) (sEqX true) := bin_X (fun i => op_neP (hu i)) fun i => op_neX (hu i)
theorem geqT_ok {x y : D} (h1 : eqOk x = true) (h2 : eqOk y = true) : geqT x y = some (deq x y) := by
  unfold geqT plainEq
  rw [h1, h2]
  rfl
theorem sEqX_ok {neg : Bool} {x y : D} {Q : SD → Prop} (h1 : eqOk x = true) (h2 : eqOk y = true) : sEqX neg x y Q = Q (.d (.bl (neg ^^ deq x y))) := by
  unfold sEqX
  rw [geqT_ok h1 h2]
theorem geqT_nil (xs : List D) : geqT (.lst xs) (.lst []) = some xs.isEmpty := by
  unfold geqT
  cases e : plainEq (.lst xs) (.lst []) with
  | some b =>
    obtain ⟨h1, h2, rfl⟩ := plainEq_some e
    obtain ⟨p, hp, _⟩ := eqOk_some h1
    unfold toP at hp
    split at hp
    · rename_i ps hps
      simp only
      rw [deq_of (x := .lst xs) (y := .lst []) (p := .list ps) (q := .list []) (by unfold toP; rw [hps]) rfl]
      cases xs with
      | nil => cases hps; rfl
      | cons x r =>
        simp only [toPs] at hps
        split at hps
        · cases hps; rfl
        · cases hps
    · cases hp
  | none =>
    cases xs with
    | nil => rfl
    | cons x r => rfl
theorem sEqX_nil {neg : Bool} {xs : List D} {Q : SD → Prop} : sEqX neg (.lst xs) (.lst []) Q = Q (.d (.bl (neg ^^ xs.isEmpty))) := by
  unfold sEqX
  rw [geqT_nil]
end
section
variable {Φ : Fam} {W : WX} {a b : Expr} {pos : Pos}
def sEqD : S2 := fun x y Q => match x, y with
  | .dic x, .dic y => ∃ b, (if x.length = y.length then dicO (geqN 10) y x else some false) = some b ∧ Q (.d (.bl b))
  | _, _ => False
end
end DL
namespace PySem.W
open PySem PySem.Calls PyProof.Rows
section
variable {prog : Program} {w : World} {A : Around} {E : Value → Shared → Prop} {s : Shared} {K : Frag} {x C L f : Addr} {h₀ : Heap} {m : Str → Option Value} {ox : Obj} {od : Option Obj} {b tb : Value}
end
end PySem.W
namespace DL
open PySem L2
structure EqC (K : PySem.W.Frag) (C : Addr) : Prop where
  ne : PySem.W.findIn K (.ref C) "__ne__" = some (some (.builtin "object.__ne__"))
  ob : PySem.W.subIn K (.ref C) (.type "object") = some true
section
variable {X : Cx} {n : Nat} {C f : Addr} {fd : FuncData} {ps : List Str} {sp : Sp}
end
def wEqO (ds : DSp) (C : Addr) (neg : Bool) (wa wb : WF) : WE := fun δ Q E => wa δ (fun x δ1 => wb δ1 (fun y δ2 => match x, y with
  | .obj C1 fs, .obj C2 gs => C1 = C ∧ C2 = C ∧ ds (argsD [.obj C1 fs, .obj C2 gs]) (fun sd _ => ∃ b, sd = .d (.bl b) ∧ Q (.d (.bl (neg ^^ b))) δ2) (fun _ _ _ _ => False)
  | _, _ => False) E) E
section
variable {Φ : Fam} {W : WX} {k j : Nat} {a b : Expr} {pos : Pos} {C : Addr} {ps : List Str} {ds : DSp}
end
end DL
namespace Hd
open PySem PySem.Spec L2 DL He
open PyProof.Rows (envOfC)
section
variable {P : Program} {w : World} {K : PySem.W.Frag} {mg : Str → Option Value} {base : Heap}
theorem okFD {x qual : Str} {params : Arguments} {body : List Stmt} {scope : Scope} {dvs : List V} {kws : List (Str × V)} {f : Addr} {fd : FuncData} {N ps : List Str} {k : Nat} {ds : DSp} {ws : WS} (F : FunD K x qual params body scope dvs kws f fd) (S : FnScope N ps scope) (len : ∀ α Q E, ds α Q E → α.length = ps.length ∧ ∀ (i : Nat) (c : Cn), α[i]? ≠ some (some (.o c)))
    (hb : ∀ (cdv : Value) (A : Around) (outer : List Env) (s : Shared) (H : Hp) (E : XK), Room k (A.deeper (envOfC qual scope s.heap.objs.size f cdv)) →
      DSs (Fam.one (cxOf (L2.CX P w) P w K mg base N qual scope f cdv A outer s H E)) (fun cls d _ H' => E cls d H') body ws)
    (hw : ∀ α Q E, ds α Q E → ws { nx := finD α Q (.d .non), rt := finD α Q } (finE α E) (startD N α)) : FnOk P w K mg base (L2.CX P w) (k + 1) f fd ps (toSp K ds) := by
  refine F.ok S (fun vs H Q E h => ?_) (fun cdv A outer s H vs Q E hr h => ?_)
  · obtain ⟨F0, O, α, Qd, Ed, r, hd, _, _⟩ := h
    rw [← (len α Qd Ed hd).1, r.len, List.length_map]
  · obtain ⟨F0, O, α, Qd, Ed, r, hd, q1, q2⟩ := h
    obtain ⟨hl, no⟩ := len α Qd Ed hd
    have hvl : vs.length ≤ N.length := by
      have e := congrArg List.length S.pre
      rw [List.length_take] at e
      have : vs.length = ps.length := by rw [← hl, r.len, List.length_map]
      omega
    obtain ⟨t, h1, h2⟩ := hb cdv A outer s H E hr
    refine ⟨t, h1 (), h2 ⟨F0, H, O, vs.map some⟩ F0 H (L2.start N vs) (startD N α) _ _ _ (r.entry hvl) (hw α Qd Ed hd) ⟨fun F1 H1 σ1 δ1 r1 m => ?_, fun v F1 H1 σ1 δ1 sd r1 sr m => ?_, fun F1 H1 σ1 δ1 r1 m => m.elim, fun F1 H1 σ1 δ1 r1 m => m.elim⟩ fun σ1 F1 H1 δ1 C dd g v y r1 hd1 hz rep m => ?_⟩
    · replace m : finD α Qd (.d .non) δ1 := m
      unfold finD at m
      split at m
      · rename_i α' e
        exact q1 .non F1 H1 (.d .non) α' (r.finish no r1 e) .non m
      · exact m.elim
    · replace m : finD α Qd sd δ1 := m
      unfold finD at m
      split at m
      · rename_i α' e
        exact q1 v F1 H1 sd α' (r.finish no r1 e) (SR.finish no e (r.finish no r1 e) sr) m
      · exact m.elim
    · unfold finE at m
      split at m
      · rename_i α' e
        exact q2 F1 H1 α' C dd g v y (r.finish no r1 e) hd1 hz rep m
      · exact m.elim
abbrev FunS (K : PySem.W.Frag) (x qual : Str) (st : Stmt) (dvs : List V) (f : Addr) (fd : FuncData) : Prop := FunD K x qual (defArgs st) (defBody st) (defScope st) dvs [] f fd
section
variable {x qual : Str} {st : Stmt} {dvs : List V} {f : Addr} {fd : FuncData} {N ps : List Str} {k : Nat} {ds : DSp} {ws : WS}
theorem isFn_D (F : FunS K x qual st dvs f fd) (hm : mg x = some (.ref f)) (hb : Binds K fd ps []) (S : FnScope N ps (defScope st))
    (hd : ∀ (cdv : Value) (A : Around) (outer : List Env) (s : Shared) (H : Hp) (E : XK), Cz (Fam.one (cxOf (L2.CX P w) P w K mg base N qual (defScope st) f cdv A outer s H E)) (fun cls d _ H' => E cls d H') k →
      DSs (Fam.one (cxOf (L2.CX P w) P w K mg base N qual (defScope st) f cdv A outer s H E)) (fun cls d _ H' => E cls d H') (defBody st) ws)
    (len : ∀ α Q E, ds α Q E → α.length = ps.length ∧ ∀ (i : Nat) (c : Cn), α[i]? ≠ some (some (.o c)))
    (hw : ∀ α Q E, ds α Q E → ws { nx := finD α Q (.d .non), rt := finD α Q } (finE α E) (startD N α)) : IsFn P w K mg base x (k + 1) ps ds :=
  ⟨f, fd, hm, F.kp, hb, okFD F S len (fun cdv A outer s H E hr => hd cdv A outer s H E (.one hr S.nd)) hw⟩
end
theorem clsB_ok {C : Addr} (h : clsB K C = true) : ∃ nm' q N bs bm sn sub ab col dd k0 k1 k2 k3 k5, K.lookup C = some (PySem.excClassObj nm' q C N bs bm true sn sub ab col dd k0 k1 k2 k3 k5 "ValueError.__new__") ∧ PySem.HandSPX.refsVE bm = true := by
  unfold clsB at h
  split at h
  · rename_i t dd cd sl e
    obtain ⟨h1, h2⟩ := ba h
    split at h2
    · rename_i C' bm k0 k1 k2 k3 n k5 e1 e2
      obtain ⟨a1, h2⟩ := ba h2
      obtain ⟨a2, h2⟩ := ba h2
      obtain ⟨a3, h2⟩ := ba h2
      obtain ⟨a4, a5⟩ := ba h2
      obtain rfl := of_decide_eq_true h1
      obtain rfl := of_decide_eq_true a1
      obtain rfl := of_decide_eq_true a2
      obtain ⟨n1, n2, n3, n4, n5, n6, n7, n8, n9, n10, n11⟩ := cd
      obtain ⟨l⟩ := sl
      replace e2 : l = _ := e2
      subst e2
      simp only [Bool.not_eq_true'] at a3 a4 e1
      subst e1 a3 a4
      exact ⟨n1, n5, n4, n2, bm, n7, n8, n9, n10, dd, k0, k1, k2, k3, k5, e, a5⟩
    · cases h2
  · cases h
structure ErrT (P : Program) (e : ErrD) : Prop where
  ok : EX.FldOk e.f
  tx : ∃ (p1 p2 p3 q1 q2 q3 q4 q5 r1 r2 r3 r4 : Pos), defArgs e.st = EX.eA e.f p1 p2 p3 ∧ defBody e.st = EX.eB e.f q1 q2 q3 q4 q5 r1 r2 r3 r4 ∧ defScope e.st = EX.eS e.f ∧ EX.SupCall e.f q1 q2 q3 q4 q5 ∧ EX.SwapsNot e.f q1 q2 q3 q4 q5 r1 r2 r3 r4 ∧
    ∀ (cc T : Addr) (kV doc pm : Value) (an : Option Addr) (cda : Addr) (ct : Value) (us its : List Value), us.length = 2 → its.length = 1 → ∃ k, bindArgs (PySem.W.fnX "__init__" e.qual (EX.eA e.f p1 p2 p3) (EX.eB e.f q1 q2 q3 q4 q5 r1 r2 r3 r4) (EX.eS e.f) [("__class__", cc)] (.ref T) kV doc pm an (.ref cda) ct) ⟨us, []⟩ = seqItems? (.ref T) >>= k ∧
      k (some its.toArray) = pure ([("self" : Str), e.f].zip us)
  top : (P.main.scope.names.lookup ("super" : Str)).isSome = false
theorem isErr_of {e : ErrD} {h : Heap} (X : K.In h) (G : h.Ns mainGlobals mg) (T : ErrT P e) (v : fnE K e.nm = e.val) (c : errB P K e = true) : IsErr P K mg e.nm e.f (ga K e.nm) := by
  unfold errB at c
  obtain ⟨c1, c⟩ := ba c
  obtain ⟨c2, c⟩ := ba c
  obtain ⟨c3, c⟩ := ba c
  obtain ⟨c4, c⟩ := ba c
  obtain ⟨c5, c⟩ := ba c
  obtain ⟨c6, c⟩ := ba c
  obtain ⟨c7, c⟩ := ba c
  obtain ⟨c8, c⟩ := ba c
  obtain ⟨c9, c⟩ := ba c
  obtain ⟨c10, c⟩ := ba c
  obtain ⟨c11, c⟩ := ba c
  obtain ⟨c12, c⟩ := ba c
  obtain ⟨c13, c⟩ := ba c
  obtain ⟨c14, c⟩ := ba c
  obtain ⟨c15, c⟩ := ba c
  obtain ⟨c16, c⟩ := ba c
  obtain ⟨c17, c⟩ := ba c
  obtain ⟨c18, c⟩ := ba c
  obtain ⟨c19, c⟩ := ba c
  refine ⟨e.qual, ma K (ga K e.nm) "__init__", T.ok, glo_ok X G c1, clsB_ok c2, c3, eqO_ok c4, eqO_ok c5, eqO_ok c6, eqO_ok c7, eqO_ok c8, of_decide_eq_true c9, c10, of_decide_eq_true c11, of_decide_eq_true c12, of_decide_eq_true c13, c14, of_decide_eq_true c15, of_decide_eq_true c16, eqO_ok c17, eqO_ok c18, free_ok X G c19, ?_, T.top⟩
  unfold initB at c
  unfold fnE ErrD.val at v
  split at c
  · rename_i oc od fd osl eq
    rw [eq] at v
    obtain ⟨n1, n2, n3, n4, n5, n6, n7, n8, n9, n10, n11, n12, n13, n14, n15⟩ := fd
    simp only [Option.some.injEq, Prod.mk.injEq] at v
    obtain ⟨h1, h2, h3, h4, h5, h6, h7, h8⟩ := v
    obtain ⟨d1, d⟩ := ba c
    obtain ⟨d2, d3⟩ := ba d
    obtain ⟨dA, d0⟩ := ba d1
    clear d1
    replace dA : PySem.W.codeIn K n13 e.qual = true := dA
    replace d0 : dflB K n8 [.non] = true := d0
    obtain ⟨p1, p2, p3, q1, q2, q3, q4, q5, r1, r2, r3, r4, t1, t2, t3, t4, t5, t6⟩ := T.tx
    split at d2
    · rename_i cda e1
      split at d2
      · rename_i ccl cdd vs ccs e2
        split at d2
        · rename_i file tf e3
          split at d3
          · rename_i y cc e4
            split at d3
            · rename_i cl cld C' csl e5
              obtain rfl := of_decide_eq_true d3
              replace e1 : n13 = .ref cda := e1
              replace e4 : n7 = [(y, cc)] := e4
              subst e1 e4
              rw [t1] at h3
              rw [t2] at h4
              rw [t3] at h5
              simp only [List.map_cons, List.map_nil, List.cons.injEq, and_true] at h7
              subst h1 h2 h3 h4 h5 h6 h7 h8
              rcases dflB_ok d0 with ⟨z, _⟩ | ⟨_, T0, ot, its, m0, rfl, lT, oT, rT⟩
              · cases z
              exact ⟨oc, od, n10, n11, _, n9, n12, cda, cc, n14, osl, p1, p2, p3, q1, q2, q3, q4, q5, r1, r2, r3, r4, eq, dA, ⟨ccl, cdd, vs, ccs, e2, file, tf, e3, d2⟩, ⟨cl, cld, csl, e5⟩, t4, t5, fun s us X' hl => by
                rw [List.append_nil] at hl ⊢
                obtain ⟨k, b1, b2⟩ := t6 cc T0 n9 n10 n11 n12 cda n14 us its hl rT.length.symm
                refine BindsTo.of_looks fun M => ?_
                rw [b1]
                exact looks_items X' lT oT (.of_pure b2)⟩
            · cases d3
          · cases d3
        · cases d2
      · cases d2
    · cases d2
  · cases c
end
section
variable {P : Program} {fa : List Fa} {fn : List DefD} {er : List ErrD} {ex : PySem.W.Frag → Bool} {K : PySem.W.Frag}
theorem SaysH.d (c : SaysH P fa fn er ex K) : SaysD fa fn K := congrArg (fun z : AlH => z.1) c
theorem SaysH.more (c : SaysH P fa fn er ex K) : ex K = true := (ba (show ((er.all fun e => errB P K e) && ex K) = true from congrArg (fun z : AlH => z.2.2) c)).2
theorem SaysH.err (c : SaysH P fa fn er ex K) (i : Nat) {e : ErrD} (h : er[i]? = some e := by rfl) : fnE K e.nm = e.val ∧ errB P K e = true := by
  have c1 := (ba (show ((er.all fun e => errB P K e) && ex K) = true from congrArg (fun z : AlH => z.2.2) c)).1
  have c2 : er.map (fun e => fnE K e.nm) = er.map ErrD.val := congrArg (fun z : AlH => z.2.1) c
  have e2 : (er.map fun e => fnE K e.nm)[i]? = (er.map ErrD.val)[i]? := by rw [c2]
  rw [List.getElem?_map, List.getElem?_map, h] at e2
  exact ⟨Option.some.inj e2, List.all_eq_true.mp c1 e (List.mem_of_getElem? h)⟩
end
end Hd
namespace Hd
open PySem PySem.Spec L2 DL PyProof.Rows
theorem law_says {K : PySem.W.Frag} {H : Hp} {a : Addr} {ns : List Int} {ds : DSp} (hS : SqL K H a (ns.map V.int)) (h : ∀ Q E, Q (.d (.bl true)) [some (.d (.scr ns))] → ds [some (.d (.scr ns))] Q E) : toSp K ds [.ref a] H (fun v _ => v = .bl true) fun _ _ _ => False := by
  refine ⟨H, [], [some (.d (.scr ns))], fun sd _ => sd = .d (.bl true), fun _ _ _ _ => False, ⟨.refl _, rfl, fun i x e => ?_, fun i c e => ?_, fun i c e => ?_, fun i j b hi => ?_, .refl _, fun b o e _ => e, fun b hb => (nomatch hb), fun b o e _ => .inl ⟨o, e⟩⟩, h _ _ rfl, fun v F' H' sd α' r sr q => ?_, fun _ _ _ _ _ _ _ _ _ _ _ _ m => m⟩
  · match i, e with
    | 0, e =>
      cases e
      exact ⟨_, rfl, .scr _ hS⟩
  · match i, e with
    | 0, e => cases e
  · match i, e with
    | 0, e => cases e
  · exfalso
    revert hi
    unfold isOwn
    match i with
    | 0 => simp
    | i + 1 => simp
  · subst q
    cases sr
    rfl
theorem walk_ofH {l : PySem.W.OpenLaw} {n k : Nat} {q : Program} {loose : List Str} {XP : (Str → Option Value) → Heap → Prop} {YP : World → Heap → Prop} {d : DefRec} {x : Str}
    (hn : l.most = some n) (hn2 : n ≤ sizeLine) (hdf : d.params.defaults = []) (hr : Room k callerA)
    (F : ∀ (w : World) (mg : Str → Option Value) (fa : Addr) (h : Heap), YP w h → h.Ns mainGlobals mg → mg d.name = some (.ref fa) →
      ∃ (K : PySem.W.Frag) (fd : FuncData) (sp : Sp), K.In h ∧ (∀ (s : Shared) (u : Value), BindsTo s fd ⟨[u], []⟩ [(x, u)]) ∧
        (∀ (H : Hp) (a : Addr) (ns : List Int), ns.length ≤ n → Only H → SqL K H a (ns.map V.int) → sp [.ref a] H (fun v _ => v = .bl true) fun _ _ _ => False) ∧
        ∀ base : Heap, K.In base → base.Ns mainGlobals mg → FnOk l.prog w K mg base (L2.CX l.prog w) k fa fd [x] sp) :
    PySem.W.WalkO q loose XP YP l.row.toRowW d [] (fun f vs => PySem.call f vs) := by
  refine Att.attach_call hn hdf fun w s₀ s₁ mg mb fa o pm cd doc a vs ns G Y ho hd hcd hmg hobj hints hlen hg => ?_
  obtain ⟨K, fd, sp, KX, hb, hsp, hF⟩ := F w mg fa _ Y G.T.g hmg
  exact law_call KX G.T.g G.T.b G.T.builtins G.T.nolimit hg hobj hints (Nat.le_trans hlen hn2) hr hF hb (fun H hO hS => hsp H a ns hlen hO hS) fun H e s' ⟨_, _, _, _, _, _, _, _, _, _, _, _, z⟩ => z
end Hd
namespace EX
open PySem PySem.W PySem.Calls PyProof.Rows PySem.HandSPX
section
variable {M : Model} {A : Around} {E : Value → Shared → Prop} {s : Shared} {nm q : Str} {C N : Addr} {bs bm bmB : List Value} {hdct : Bool} {sn : List Str} {sub : List Value} {ab : Bool} {col : Option Bool} {dd : Option Addr} {k0 k1 k2 k3 k5 : Option Value} {B newId initId : String}
abbrev ECls (h : Heap) (nm q : Str) (C N : Addr) (bs bm : List Value) (hdct : Bool) (sn : List Str) (sub : List Value) (ab : Bool) (col : Option Bool) (dd : Option Addr) (k0 k1 k2 k3 k5 : Option Value) (newId : String) : Prop :=
  h.get? C = some (excClassObj nm q C N bs bm hdct sn sub ab col dd k0 k1 k2 k3 k5 newId)
theorem kw_check (F : ExcBaseFacts B newId initId bmB) (hT : ∀ Y : String, bm.contains (.type Y) = bmB.contains (.type Y)) {us : List Value} {kw : List (Str × Value)} {Q : Unit → Shared → Prop}
    (hC : ECls s.heap nm q C N bs bm hdct sn sub ab col dd k0 k1 k2 k3 k5 newId) (hq : Q () s) : wpAny M A (checkBuiltinCall newId ⟨.ref C :: us, kw⟩) Q E s := by
  obtain ⟨h, g, d, t, os⟩ := s
  have inB : (Value.ref C :: bm).contains (.type B) = true := by rw [List.contains_cons, hT, F.hasB, Bool.or_true]
  have star := F.noStar
  simp only [checkBuiltinCall, F.newKind, F.newSplit, F.newRow]
  repeat (first
    | refine wpAny_loadPart_at hC ?_
    | (refine wpAny_isSubtype_exc hC ?_; rw [inB])
    | refine wpAny_staticBase_exc hC ?_
    | refine wpAny_madeBy_exc hC ?_
    | simp only [bne_self_eq_false, Bool.false_eq_true, if_false]
    | wp_step)
  exact hq
end
section
variable {prog : Program} {w : World} {A : Around} {E : Value → Shared → Prop} {R : Result → Shared → Prop} {s : Shared} {nm q : Str} {C N : Addr} {bs bm bmB : List Value} {hdct : Bool} {sn : List Str} {sub : List Value} {ab : Bool} {col : Option Bool} {dd : Option Addr} {k0 k1 k2 k3 k5 : Option Value} {B newId initId : String}
abbrev bareE (C : Addr) (us : List Value) (h : Heap) : Heap := (h.push (kdv_tup us)).push (excO C h.objs.size)
theorem kw_new (F : ExcBaseFacts B newId initId bmB) (hT : ∀ Y : String, bm.contains (.type Y) = bmB.contains (.type Y)) {us : List Value} {kw : List (Str × Value)}
    (hC : ECls s.heap nm q C N bs bm hdct sn sub ab col dd k0 k1 k2 k3 k5 newId) (few : us.length ≤ sizeLine)
    (hq : R (.ok (.ret (.ref (s.heap.objs.size + 1)))) { s with heap := bareE C us s.heap }) : codeAny (model prog w) A (.builtin newId ⟨.ref C :: us, kw⟩) R s := by
  obtain ⟨h, g, d, t, os⟩ := s
  have ends := F.ends
  have inB : (Value.ref C :: bm).contains (.type B) = true := by rw [List.contains_cons, hT, F.hasB, Bool.or_true]
  have inA : (Value.ref C :: bm).contains (.type "AttributeError") = false := by rw [List.contains_cons, hT, F.noAttr] <;> rfl
  have inN : (Value.ref C :: bm).contains (.type "NameError") = false := by rw [List.contains_cons, hT, F.noName] <;> rfl
  refine codeAny_builtinAt F.entry ?_
  unfold Builtin.«BaseException.__new__»
  refine PySem.wpAt_bind ?_
  show PySem.wpAt _ _ _ (stack >>= _) _ _ _
  refine PySem.wpAt_bind (PySem.wpAt_stack fun top below => PySem.wpAt_of_wpAny ?_)
  wp_walk
  refine PySem.wpAt_of_wpAny ?_
  rw [F.owner]
  repeat (first
    | with_reducible refine wpAny_madeHere_exc F.canon hC ?_
    | with_reducible refine wpAny_loadPart_at hC ?_
    | (with_reducible refine wpAny_isSubtype_exc hC ?_
       first
         | rw [inB]
         | rw [inA]
         | rw [inN])
    | wp_step)
  show R _ _
  rw [Heap.size_push]
  exact hq
theorem kw_type (F : ExcBaseFacts B newId initId bmB) (hT : ∀ Y : String, bm.contains (.type Y) = bmB.contains (.type Y)) {us : List Value} {kw : List (Str × Value)} {fI : Addr} {Q : Fin → Shared → Prop}
    (hC : ECls s.heap nm q C N bs bm hdct sn sub ab col dd k0 k1 k2 k3 k5 newId) (few : us.length ≤ sizeLine)
    (li : Looks (model prog w) s.heap (typeLookup (.ref C) "__init__") (some (.ref fI))) (lb : ∀ z, Looks (model prog w) s.heap (bindSpecial (.ref fI) z) (.ref fI, [z]))
    (hq : codeAny (model prog w) A (.call (.ref fI) ⟨.ref (s.heap.objs.size + 1) :: us, kw⟩) (fun r s' => match r with
      | .ok (.ret v) => v = .none ∧ Q (.done (.ret (.ref (s.heap.objs.size + 1)))) s'
      | .ok _ => False
      | .error e => E e s') { s with heap := bareE C us s.heap }) : wpAny (model prog w) A (Builtin.«type.__call__» ⟨.ref C :: us, kw⟩) Q E s := by
  obtain ⟨h, g, d, t, os⟩ := s
  repeat (first
    | with_reducible refine wpAny_loadPart_at hC ?_
    | with_reducible refine wpAny_madeBy_exc hC ?_
    | wp_step)
  refine codeAny_call_builtin_code (Code.quiet_builtin _ F.quiet) (kw_check F hT hC (kw_new F hT hC few ?_))
  show wpAny _ _ _ _ _ _
  have up : ∀ b o, h.get? b = some o → (bareE C us h).get? b = some o := fun b o e => Heap.get?_push_of_some _ (Heap.get?_push_of_some _ e)
  have c2 := up _ _ hC
  have got : (bareE C us h).get? (h.objs.size + 1) = some (excO C h.objs.size) := by heap_get
  have inC : (Value.ref C :: bm).contains (.ref C) = true := by simp
  have i2 := li.keeps up
  have b2 := (lb (.ref (h.objs.size + 1))).keeps up
  unfold isInstance
  repeat (first
    | with_reducible refine wpAny_loadPart_at got ?_
    | (with_reducible refine wpAny_isSubtype_exc c2 ?_
       rw [inC])
    | wp_step)
  show wpAny _ _ (typeLookup (.ref C) _) _ _ _
  refine i2.at (wpAny_holding (wpAny_bind (b2.at (wpAny_bind (wpAny_call (codeAny_mono hq fun r s' z => ?_))))))
  rcases r with e | (v | _ | _ | _) <;> first | exact z | exact False.elim z | skip
  obtain ⟨rfl, z2⟩ := z
  first
    | exact wpAny_pure (wpAny_pure z2)
    | (wp_walk; exact z2)
theorem kw_call (F : ExcBaseFacts B newId initId bmB) (hT : ∀ Y : String, bm.contains (.type Y) = bmB.contains (.type Y)) {us : List Value} {kw : List (Str × Value)} {fI : Addr}
    (hC : ECls s.heap nm q C N bs bm hdct sn sub ab col dd k0 k1 k2 k3 k5 newId) (few : us.length ≤ sizeLine)
    (li : Looks (model prog w) s.heap (typeLookup (.ref C) "__init__") (some (.ref fI))) (lb : ∀ z, Looks (model prog w) s.heap (bindSpecial (.ref fI) z) (.ref fI, [z]))
    (hq : codeAny (model prog w) (A.under (.builtin "type.__call__" ⟨.ref C :: us, kw⟩)) (.call (.ref fI) ⟨.ref (s.heap.objs.size + 1) :: us, kw⟩) (InitBack (s.heap.objs.size + 1) R) { s with heap := bareE C us s.heap }) :
    codeAny (model prog w) A (.call (.ref C) ⟨us, kw⟩) R s := by
  obtain ⟨h, g, d, t, os⟩ := s
  have f1 := tc_lookup
  have f2 := tc_bind (.ref C)
  have ty : (⟨h, g, d, t, os⟩ : Shared).TypeIs (.ref C) "type" := ⟨_, hC, rfl⟩
  refine codeAny_of_tree ?_
  show wpAny _ _ (callAny (.ref C) _) _ _ _
  repeat (any_goals (first
    | assumption
    | with_reducible refine wpAny_loadPart_at hC ?_
    | wp_step))
  refine ⟨rfl, ?_⟩
  refine codeAny_call_builtin_at (Code.quiet_builtin _ (by decide +kernel)) entry_typeCall (wpAny_check_type_call_sub hC (kw_type F hT hC few li lb (codeAny_mono hq fun r s' z => ?_)))
  rcases r with e | (v | _ | _ | _) <;> exact z
end
section
variable {prog : Program} {w : World} {A : Around} {R : Result → Shared → Prop} {s : Shared} {K : Frag} {mg mb : Str → Option Value} {nm qi f : Str} {C fI : Addr}
def EBinds (K : Frag) (fI : Addr) (f : Str) (us : List Value) (kw : List (Str × Value)) (v : Value) : Prop := ∀ (x : Addr) (s : Shared) (fd : FuncData), K.In s.heap → (∃ o, K.lookup fI = some o ∧ o.data = .func fd) → BindsTo s fd ⟨.ref x :: us, kw⟩ [("self", .ref x), (f, v)]
theorem e_madeA (T : ETxt prog K mg nm qi f C fI) {us : List Value} {kw : List (Str × Value)} {v : Value} (few : us.length ≤ sizeLine) (bd : EBinds K fI f us kw v) (X : K.In s.heap) (hlim : s.heap.NoLimit) (hg : s.heap.Ns mainGlobals mg) (hb : s.heap.Ns builtinsNs mb)
    (hsup : mb "super" = some (.type "super")) (room : A.depth + 1 < recursionLimit) (hq : ∀ h' tk e d, EMade s.heap h' e C d f v → R (.ok (.ret (.ref e))) { s with heap := h', toks := tk }) : codeAny (model prog w) A (.call (.ref C) ⟨us, kw⟩) R s := by
  obtain ⟨cn, qn, N, bs, bm, sn, sub, ab, col, dd, k0, k1, k2, k3, k5, hC, hbm⟩ := T.cls
  obtain ⟨hp, g, dr, tk, os⟩ := s
  have up : ∀ b o, hp.get? b = some o → (bareE C us hp).get? b = some o := fun b o e => Heap.get?_push_of_some _ (Heap.get?_push_of_some _ e)
  have got : (bareE C us hp).get? (hp.objs.size + 1) = some (excO C hp.objs.size) := by heap_get
  have free : K.lookup (hp.objs.size + 1) = none := by
    cases e : K.lookup (hp.objs.size + 1) with
    | none => rfl
    | some o => exact absurd (Nat.lt_of_succ_lt (Heap.lt_size (show hp.get? (hp.objs.size + 1) = some o from X _ _ e))) (Nat.lt_irrefl _)
  refine kw_call F.excBase_ValueError (fun Y => refsVE_contains Y bm hbm) (X _ _ hC) few (looks_findIn X T.iC) (fun z => bind_fn X z T.tC) ?_
  refine e_init (s := ⟨bareE C us hp, g, dr, tk, os⟩) (v := v) (x := hp.objs.size + 1) (t0 := hp.objs.size) T (X.keeps up) (hlim.keeps up) (hg.keeps up) (hb.keeps up) hsup got free room (fun fd _ hfd => bd _ _ fd (X.keeps up) hfd) fun h' tk' dx M => ?_
  obtain ⟨kp, ⟨t, hx⟩, dn, dne, hns⟩ := M
  have z : hp.objs.size + 1 + 1 ≤ dx := by
    first
      | (simpa only [Heap.size_push] using dn)
      | exact dn
  exact ⟨rfl, hq h' tk' (hp.objs.size + 1) dx ⟨fun b o e => kp b o (Nat.ne_of_lt (Nat.lt_succ_of_lt (Heap.lt_size e))) (up b o e), Nat.le_succ _, ⟨t, hx⟩, Nat.le_trans (Nat.le_trans (Nat.le_succ _) (Nat.le_succ _)) z, dne, hns⟩⟩
theorem ebinds_pos (T : ETxt prog K mg nm qi f C fI) {v : Value} : EBinds K fI f [v] [] v := fun x s fd X hfd => by
  obtain ⟨oc, od, doc, pm, dV, kV, an, cda, cc, ct, osl, p1, p2, p3, q1, q2, q3, q4, q5, r1, r2, r3, r4, ho, _, _, _, _, _, hbi⟩ := T.fn
  obtain ⟨o, h1, h2⟩ := hfd
  rw [ho] at h1
  cases h1
  cases h2
  exact hbi s [.ref x, v] X rfl
end
end EX
namespace DL
open PySem L2
def noO : Dl → Bool
  | [] => true
  | some (.o _) :: _ => false
  | _ :: r => noO r
theorem noO_ok : ∀ {α : Dl}, noO α = true → ∀ (i : Nat) (c : Cn), α[i]? ≠ some (some (.o c))
  | [], _, i, c, h => by simp at h
  | none :: r, e, 0, c, h => by simp at h
  | none :: r, e, i + 1, c, h => noO_ok (α := r) e i c (by simpa using h)
  | some (.d x) :: r, e, 0, c, h => by simp at h
  | some (.d x) :: r, e, i + 1, c, h => noO_ok (α := r) e i c (by simpa using h)
  | some (.p x) :: r, e, 0, c, h => by simp at h
  | some (.p x) :: r, e, i + 1, c, h => noO_ok (α := r) e i c (by simpa using h)
  | some (.o x) :: r, e, i, c, h => by simp [noO] at e
theorem lenOf {α : Dl} {n : Nat} (h : α.length = n) (h' : noO α = true) : α.length = n ∧ ∀ (i : Nat) (c : Cn), α[i]? ≠ some (some (.o c)) := ⟨h, noO_ok h'⟩
theorem lt! {a b : Nat} (h : Nat.ble (a + 1) b = true) : a < b := Nat.le_of_ble_eq_true h
abbrev sL (xs : List Str) : D := .lst (xs.map .str)
abbrev iL (xs : List Int) : D := .lst (xs.map .int)
theorem toPs_cons {x : D} {xs : List D} {p : PyData} {ps : List PyData} (h : toP x = some p) (h' : toPs xs = some ps) : toPs (x :: xs) = some (p :: ps) := by
  simp only [toPs, h, h']
theorem toPs_map {α : Type} {f : α → D} {g : α → PyData} (h : ∀ a, toP (f a) = some (g a)) : ∀ xs : List α, toPs (xs.map f) = some (xs.map g)
  | [] => rfl
  | x :: xs => toPs_cons (h x) (toPs_map h xs)
theorem toP_lst {xs : List D} {ps : List PyData} (h : toPs xs = some ps) : toP (.lst xs) = some (.list ps) := by simp only [toP, h]
theorem toP_tup {xs : List D} {ps : List PyData} (h : toPs xs = some ps) : toP (.tup xs) = some (.tuple ps) := by simp only [toP, h]
theorem depthAll_le {n : Nat} : ∀ {ps : List PyData}, (∀ p ∈ ps, p.depth ≤ n) → PyData.depthAll ps ≤ n
  | [], _ => by simp only [PyData.depthAll]; exact Nat.zero_le _
  | p :: ps, h => by
    simp only [PyData.depthAll]
    have h1 := h p List.mem_cons_self
    have h2 := depthAll_le (n := n) (ps := ps) fun q hq => h q (List.mem_cons_of_mem _ hq)
    omega
theorem depth_str (x : Str) : (PyData.str x).depth = 0 := by simp only [PyData.depth]
theorem depth_int (x : Int) : (PyData.int x).depth = 0 := by simp only [PyData.depth]
def Eok (n : Nat) (x : D) : Prop := ∃ p, toP x = some p ∧ p.depth ≤ n
theorem Eok.ok {n : Nat} {x : D} (h : Eok n x) (hn : n ≤ 40) : eqOk x = true := by
  obtain ⟨p, e, d⟩ := h
  unfold eqOk
  rw [e]
  exact decide_eq_true (Nat.le_trans d hn)
theorem Eok.str {n : Nat} (x : Str) : Eok n (.str x) := ⟨_, rfl, by rw [depth_str]; exact Nat.zero_le _⟩
theorem Eok.int {n : Nat} (x : Int) : Eok n (.int x) := ⟨_, rfl, by rw [depth_int]; exact Nat.zero_le _⟩
theorem Eok.bl {n : Nat} (x : Bool) : Eok n (.bl x) := ⟨_, rfl, by simp only [PyData.depth]; exact Nat.zero_le _⟩
theorem Eok.non {n : Nat} : Eok n .non := ⟨_, rfl, by simp only [PyData.depth]; exact Nat.zero_le _⟩
theorem Eok.all {n : Nat} : ∀ {xs : List D}, (∀ x ∈ xs, Eok n x) → ∃ ps, toPs xs = some ps ∧ PyData.depthAll ps ≤ n
  | [], _ => ⟨[], rfl, by simp only [PyData.depthAll]; exact Nat.zero_le _⟩
  | x :: xs, h => by
    obtain ⟨p, e, d⟩ := h x List.mem_cons_self
    obtain ⟨ps, es, ds⟩ := Eok.all (n := n) (xs := xs) fun q hq => h q (List.mem_cons_of_mem _ hq)
    refine ⟨p :: ps, toPs_cons e es, ?_⟩
    simp only [PyData.depthAll]
    omega
theorem Eok.lst {n : Nat} {xs : List D} (h : ∀ x ∈ xs, Eok n x) : Eok (n + 1) (.lst xs) := by
  obtain ⟨ps, e, d⟩ := Eok.all h
  exact ⟨_, toP_lst e, by simp only [PyData.depth]; omega⟩
theorem Eok.tup {n : Nat} {xs : List D} (h : ∀ x ∈ xs, Eok n x) : Eok (n + 1) (.tup xs) := by
  obtain ⟨ps, e, d⟩ := Eok.all h
  exact ⟨_, toP_tup e, by simp only [PyData.depth]; omega⟩
theorem Eok.mono {n m : Nat} {x : D} (h : Eok n x) (hn : n ≤ m) : Eok m x := let ⟨p, e, d⟩ := h; ⟨p, e, Nat.le_trans d hn⟩
theorem Eok.sL {n : Nat} (xs : List Str) : Eok (n + 1) (sL xs) := .lst fun x hx => by
  obtain ⟨z, _, rfl⟩ := List.mem_map.mp hx
  exact .str z
theorem Eok.iL {n : Nat} (xs : List Int) : Eok (n + 1) (iL xs) := .lst fun x hx => by
  obtain ⟨z, _, rfl⟩ := List.mem_map.mp hx
  exact .int z
theorem eqOk_str (x : Str) : eqOk (.str x) = true := (Eok.str (n := 0) x).ok (by decide)
theorem eqOk_int (x : Int) : eqOk (.int x) = true := (Eok.int (n := 0) x).ok (by decide)
theorem eqOk_bl (x : Bool) : eqOk (.bl x) = true := (Eok.bl (n := 0) x).ok (by decide)
theorem eqOk_non : eqOk .non = true := (Eok.non (n := 0)).ok (by decide)
theorem eqOk_sL (xs : List Str) : eqOk (.lst (xs.map .str)) = true := (Eok.sL (n := 0) xs).ok (by decide)
theorem eqOk_iL (xs : List Int) : eqOk (.lst (xs.map .int)) = true := (Eok.iL (n := 0) xs).ok (by decide)
theorem eqOk_nil : eqOk (.lst []) = true := eqOk_sL []
theorem eqOk_nilT : eqOk (.tup []) = true := (Eok.tup (n := 0) (xs := []) (fun x h => nomatch h)).ok (by decide)
theorem deq_str (x y : Str) : deq (.str x) (.str y) = decide (x = y) := by
  show (x == y) = _
  rfl
theorem deq_int (x y : Int) : deq (.int x) (.int y) = decide (x = y) := by
  show (x == y) = _
  rfl
theorem deq_non : deq .non .non = true := rfl
theorem eqvAll_cons (x y : PyData) (xs ys : List PyData) : PyData.eqvAll (x :: xs) (y :: ys) = (PyData.eqv x y && PyData.eqvAll xs ys) := by simp only [PyData.eqvAll]
theorem eqvAll_map {α : Type} {g : α → PyData} (h : ∀ a b, PyData.eqv (g a) (g b) = true ↔ a = b) : ∀ xs ys : List α, PyData.eqvAll (xs.map g) (ys.map g) = true ↔ xs = ys
  | [], [] => ⟨fun _ => rfl, fun _ => rfl⟩
  | [], _ :: _ => ⟨fun h => (by cases h), fun h => (by cases h)⟩
  | _ :: _, [] => ⟨fun h => (by cases h), fun h => (by cases h)⟩
  | x :: xs, y :: ys => by
    rw [List.map_cons, List.map_cons, eqvAll_cons, Bool.and_eq_true, h x y, eqvAll_map h xs ys, List.cons.injEq]
structure Knd {α : Type} (f : α → D) (g : α → PyData) : Prop where
  to : ∀ a, toP (f a) = some (g a)
  iff : ∀ a b, PyData.eqv (g a) (g b) = true ↔ a = b
theorem Knd.str : Knd D.str PyData.str := ⟨fun _ => rfl, fun a b => by show (a == b) = true ↔ _; exact beq_iff_eq⟩
theorem Knd.int : Knd D.int PyData.int := ⟨fun _ => rfl, fun a b => by show (a == b) = true ↔ _; exact beq_iff_eq⟩
theorem Knd.bl : Knd D.bl PyData.bool := ⟨fun _ => rfl, fun a b => by show (a == b) = true ↔ _; exact beq_iff_eq⟩
theorem Knd.lst {α : Type} {f : α → D} {g : α → PyData} (k : Knd f g) : Knd (fun xs : List α => .lst (xs.map f)) (fun xs => .list (xs.map g)) := ⟨fun xs => toP_lst (toPs_map k.to xs), fun xs ys => eqvAll_map k.iff xs ys⟩
theorem Knd.tup {α : Type} {f : α → D} {g : α → PyData} (k : Knd f g) : Knd (fun xs : List α => .tup (xs.map f)) (fun xs => .tuple (xs.map g)) := ⟨fun xs => toP_tup (toPs_map k.to xs), fun xs ys => eqvAll_map k.iff xs ys⟩
theorem Knd.eq {α : Type} [DecidableEq α] {f : α → D} {g : α → PyData} (k : Knd f g) (a b : α) : deq (f a) (f b) = decide (a = b) := by
  rw [deq_of (k.to a) (k.to b)]
  cases h : PyData.eqv (g a) (g b) with
  | true => exact (decide_eq_true ((k.iff a b).mp h)).symm
  | false => exact (decide_eq_false fun e => by rw [(k.iff a b).mpr e] at h; cases h).symm
theorem Knd.mem {α : Type} [DecidableEq α] {f : α → D} {g : α → PyData} (k : Knd f g) (a : α) : ∀ xs : List α, dmem (f a) (xs.map f) = decide (a ∈ xs)
  | [] => rfl
  | x :: xs => by
    have e : dmem (f a) ((x :: xs).map f) = (deq (f x) (f a) || dmem (f a) (xs.map f)) := by
      show List.any _ _ = _
      rw [List.map_cons, List.any_cons]
      rfl
    rw [e, k.eq, k.mem a xs, ← Bool.decide_or]
    congr 1
    rw [List.mem_cons]
    exact propext ⟨fun h => h.imp Eq.symm id, fun h => h.imp Eq.symm id⟩
theorem Knd.some {α : Type} {f : α → D} {g : α → PyData} (k : Knd f g) (xs : List α) : (toPs (xs.map f)).isSome = true := by rw [toPs_map k.to]; rfl
theorem Knd.inj {α : Type} {f : α → D} {g : α → PyData} (k : Knd f g) (a b : α) (h : f a = f b) : a = b := by
  have e := k.to a
  rw [h, k.to b] at e
  injection e with e
  refine (k.iff a b).mp ?_
  rw [e]
  exact (k.iff a a).mpr rfl
theorem deq_sL (x y : List Str) : deq (.lst (x.map .str)) (.lst (y.map .str)) = decide (x = y) := (Knd.lst Knd.str).eq x y
theorem deq_iL (x y : List Int) : deq (.lst (x.map .int)) (.lst (y.map .int)) = decide (x = y) := (Knd.lst Knd.int).eq x y
theorem dmem_str (x : Str) (xs : List Str) : dmem (.str x) (xs.map .str) = decide (x ∈ xs) := Knd.str.mem x xs
theorem dmem_int (x : Int) (xs : List Int) : dmem (.int x) (xs.map .int) = decide (x ∈ xs) := Knd.int.mem x xs
theorem some_strs (xs : List Str) : (toPs (xs.map .str)).isSome = true := Knd.str.some xs
theorem some_ints (xs : List Int) : (toPs (xs.map .int)).isSome = true := Knd.int.some xs
theorem deq_nil {xs : List D} {ps : List PyData} (h : toPs xs = some ps) : deq (.lst xs) (.lst []) = decide (xs = []) := by
  rw [deq_of (toP_lst h) (rfl : toP (.lst []) = some (.list []))]
  cases xs with
  | nil => cases h; rfl
  | cons x xs =>
    simp only [toPs] at h
    split at h
    · cases h; rfl
    · cases h
theorem deq_nilM {α : Type} {f : α → D} {g : α → PyData} (k : Knd f g) (xs : List α) : deq (.lst (xs.map f)) (.lst []) = decide (xs = []) := by
  rw [deq_nil (toPs_map k.to xs)]
  congr 1
  exact propext List.map_eq_nil_iff
theorem deq_sL_nil (xs : List Str) : deq (.lst (xs.map .str)) (.lst []) = decide (xs = []) := deq_nilM .str xs
theorem deq_iL_nil (xs : List Int) : deq (.lst (xs.map .int)) (.lst []) = decide (xs = []) := deq_nilM .int xs
theorem sIsi_eq {T t : String} {x : D} {b : Bool} {Q : SD → Prop} (h : tyName x = some t) (k : kitB t T = some b) : sIsi T x Q = Q (.d (.bl b)) := by
  unfold sIsi isiD
  rw [h]
  show (match kitB t T with | some b => Q (.d (.bl b)) | none => False) = _
  rw [k]
theorem tn_non : tyName .non = some "NoneType" := rfl
theorem tn_bl (b : Bool) : tyName (.bl b) = some "bool" := rfl
theorem tn_int (b : Int) : tyName (.int b) = some "int" := rfl
theorem tn_str (b : Str) : tyName (.str b) = some "str" := rfl
theorem tn_lst (b : List D) : tyName (.lst b) = some "list" := rfl
theorem tn_tup (b : List D) : tyName (.tup b) = some "tuple" := rfl
theorem tn_dic (b : List (Key × D)) : tyName (.dic b) = some "dict" := rfl
section
variable {Q : SD → Prop} {xs : List D} {z : Str} {i : Int} {b : Bool} {k : List (Key × D)}
theorem isi_list_lst : sIsi "list" (.lst xs) Q = Q (.d (.bl true)) := sIsi_eq (tn_lst _) (by decide +kernel)
theorem isi_list_tup : sIsi "list" (.tup xs) Q = Q (.d (.bl false)) := sIsi_eq (tn_tup _) (by decide +kernel)
theorem isi_list_str : sIsi "list" (.str z) Q = Q (.d (.bl false)) := sIsi_eq (tn_str _) (by decide +kernel)
theorem isi_list_int : sIsi "list" (.int i) Q = Q (.d (.bl false)) := sIsi_eq (tn_int _) (by decide +kernel)
theorem isi_list_bl : sIsi "list" (.bl b) Q = Q (.d (.bl false)) := sIsi_eq (tn_bl _) (by decide +kernel)
theorem isi_list_non : sIsi "list" .non Q = Q (.d (.bl false)) := sIsi_eq tn_non (by decide +kernel)
theorem isi_list_dic : sIsi "list" (.dic k) Q = Q (.d (.bl false)) := sIsi_eq (tn_dic _) (by decide +kernel)
theorem isi_tup_lst : sIsi "tuple" (.lst xs) Q = Q (.d (.bl false)) := sIsi_eq (tn_lst _) (by decide +kernel)
theorem isi_tup_tup : sIsi "tuple" (.tup xs) Q = Q (.d (.bl true)) := sIsi_eq (tn_tup _) (by decide +kernel)
theorem isi_tup_str : sIsi "tuple" (.str z) Q = Q (.d (.bl false)) := sIsi_eq (tn_str _) (by decide +kernel)
theorem isi_tup_int : sIsi "tuple" (.int i) Q = Q (.d (.bl false)) := sIsi_eq (tn_int _) (by decide +kernel)
theorem isi_tup_bl : sIsi "tuple" (.bl b) Q = Q (.d (.bl false)) := sIsi_eq (tn_bl _) (by decide +kernel)
theorem isi_tup_non : sIsi "tuple" .non Q = Q (.d (.bl false)) := sIsi_eq tn_non (by decide +kernel)
theorem isi_tup_dic : sIsi "tuple" (.dic k) Q = Q (.d (.bl false)) := sIsi_eq (tn_dic _) (by decide +kernel)
theorem isi_str_lst : sIsi "str" (.lst xs) Q = Q (.d (.bl false)) := sIsi_eq (tn_lst _) (by decide +kernel)
theorem isi_str_tup : sIsi "str" (.tup xs) Q = Q (.d (.bl false)) := sIsi_eq (tn_tup _) (by decide +kernel)
theorem isi_str_str : sIsi "str" (.str z) Q = Q (.d (.bl true)) := sIsi_eq (tn_str _) (by decide +kernel)
theorem isi_str_int : sIsi "str" (.int i) Q = Q (.d (.bl false)) := sIsi_eq (tn_int _) (by decide +kernel)
theorem isi_str_bl : sIsi "str" (.bl b) Q = Q (.d (.bl false)) := sIsi_eq (tn_bl _) (by decide +kernel)
theorem isi_str_non : sIsi "str" .non Q = Q (.d (.bl false)) := sIsi_eq tn_non (by decide +kernel)
theorem isi_str_dic : sIsi "str" (.dic k) Q = Q (.d (.bl false)) := sIsi_eq (tn_dic _) (by decide +kernel)
theorem isi_int_lst : sIsi "int" (.lst xs) Q = Q (.d (.bl false)) := sIsi_eq (tn_lst _) (by decide +kernel)
theorem isi_int_tup : sIsi "int" (.tup xs) Q = Q (.d (.bl false)) := sIsi_eq (tn_tup _) (by decide +kernel)
theorem isi_int_str : sIsi "int" (.str z) Q = Q (.d (.bl false)) := sIsi_eq (tn_str _) (by decide +kernel)
theorem isi_int_int : sIsi "int" (.int i) Q = Q (.d (.bl true)) := sIsi_eq (tn_int _) (by decide +kernel)
theorem isi_int_bl : sIsi "int" (.bl b) Q = Q (.d (.bl true)) := sIsi_eq (tn_bl _) (by decide +kernel)
theorem isi_int_non : sIsi "int" .non Q = Q (.d (.bl false)) := sIsi_eq tn_non (by decide +kernel)
theorem isi_int_dic : sIsi "int" (.dic k) Q = Q (.d (.bl false)) := sIsi_eq (tn_dic _) (by decide +kernel)
theorem isi_bl_lst : sIsi "bool" (.lst xs) Q = Q (.d (.bl false)) := sIsi_eq (tn_lst _) (by decide +kernel)
theorem isi_bl_tup : sIsi "bool" (.tup xs) Q = Q (.d (.bl false)) := sIsi_eq (tn_tup _) (by decide +kernel)
theorem isi_bl_str : sIsi "bool" (.str z) Q = Q (.d (.bl false)) := sIsi_eq (tn_str _) (by decide +kernel)
theorem isi_bl_int : sIsi "bool" (.int i) Q = Q (.d (.bl false)) := sIsi_eq (tn_int _) (by decide +kernel)
theorem isi_bl_bl : sIsi "bool" (.bl b) Q = Q (.d (.bl true)) := sIsi_eq (tn_bl _) (by decide +kernel)
theorem isi_bl_non : sIsi "bool" .non Q = Q (.d (.bl false)) := sIsi_eq tn_non (by decide +kernel)
theorem isi_bl_dic : sIsi "bool" (.dic k) Q = Q (.d (.bl false)) := sIsi_eq (tn_dic _) (by decide +kernel)
end
theorem sIndex_str {names : List Str} {name : Str} {Q : SD → Prop} : sIndex (.lst (names.map .str)) (.str name) Q = (name ∈ names ∧ Q (.d (.int (names.idxOf name : Nat)))) := by
  unfold sIndex
  simp only
  rw [strs?_map]
theorem sIndex_int {names : List Int} {name : Int} {Q : SD → Prop} : sIndex (.lst (names.map .int)) (.int name) Q = (name ∈ names ∧ Q (.d (.int (names.idxOf name : Nat)))) := by
  unfold sIndex
  simp only
  rw [ints?_map]
theorem sJoin_str {a : Str} {xs : List Str} {Q : SD → Prop} : sJoin (.str a) (.lst (xs.map .str)) Q = ((xs.map (·.length)).sum + xs.length * a.length ≤ 16777216 ∧ Q (.d (.str (Txt.join a xs)))) := by
  unfold sJoin
  simp only
  rw [strs?_map]
theorem sSum_int {xs : List Int} {Q : SD → Prop} : sSum (.lst (xs.map .int)) Q = Q (.d (.int xs.sum)) := by
  unfold sSum
  simp only
  rw [ints?_map]
section
variable {wi : WI} {wg : WG} {wb : WS} {M : WEnds} {E : XQ} {δ δ1 : Dl}
theorem get_pre {α : Type} {xs : List α} {i : Nat} {d : α} (h : xs[i]? = some d) : xs = xs.take i ++ d :: xs.drop (i + 1) ∧ xs.take (i + 1) = xs.take i ++ [d] := by
  obtain ⟨hi, e⟩ := List.getElem?_eq_some_iff.mp h
  refine ⟨?_, by rw [List.take_add_one, h]; rfl⟩
  conv => lhs; rw [← List.take_append_drop i xs]
  rw [List.drop_eq_getElem_cons hi, e]
theorem for_map {α : Type} (ys : List α) (f : α → D) (P : List α → Dl → Prop) (hi : ∀ Q : List D → Dl → Prop, Q (ys.map f) δ1 → wi δ Q E) (p0 : P [] δ1)
    (ps : ∀ pre y post δ', ys = pre ++ y :: post → P pre δ' → wg (f y) δ' (fun δ2 => wb { nx := P (pre ++ [y]), rt := M.rt, bk := M.nx, ct := P (pre ++ [y]) } E δ2)) (pd : ∀ δ', P ys δ' → M.nx δ') : wFor wi wg wb M E δ := by
  refine hi _ ⟨fun i δ => P (ys.take i) δ, p0, fun i d δ' hd hp => ?_, fun δ' hp => ?_⟩
  · rw [List.getElem?_map] at hd
    cases e : ys[i]? with
    | none => rw [e] at hd; cases hd
    | some y =>
      rw [e] at hd
      cases hd
      obtain ⟨h1, h2⟩ := get_pre e
      have z := ps _ y _ δ' h1 hp
      rw [← h2] at z
      exact z
  · rw [List.length_map] at hp
    refine pd δ' ?_
    rwa [List.take_length] at hp
theorem for_rng (n : Nat) (P : Nat → Dl → Prop) (hi : ∀ Q : List D → Dl → Prop, Q (rangeD 0 n) δ1 → wi δ Q E) (p0 : P 0 δ1)
    (ps : ∀ (k : Nat) δ', k < n → P k δ' → wg (.int k) δ' (fun δ2 => wb { nx := P (k + 1), rt := M.rt, bk := M.nx, ct := P (k + 1) } E δ2)) (pd : ∀ δ', P n δ' → M.nx δ') : wFor wi wg wb M E δ := by
  refine hi _ ⟨P, p0, fun i d δ' hd hp => ?_, fun δ' hp => ?_⟩
  · obtain ⟨h1, rfl⟩ := rangeD_get hd
    have := ps i δ' h1 hp
    rwa [Int.zero_add]
  · rw [rangeD_len] at hp
    exact pd δ' hp
variable {wt : WT} {we : WF} {vs : List Nat} {Q : SD → Dl → Prop}
theorem lc_of {α β : Type} (ys : List α) (f : α → D) (g : α → Option β) (e : β → D) (hi : ∀ Q : List D → Dl → Prop, Q (ys.map f) δ1 → wi δ Q E) (hl : ys.length < 16777216)
    (ok : okW δ1 vs) (step : ∀ y ∈ ys, ∀ (R : D → Dl → Prop) (S : Dl → Prop), (∀ u, g y = some u → R (e u) δ1) → (g y = none → S δ1) → wg (f y) (wipeD δ1 vs) (fun δ2 => wt δ2 (fun b δ3 => if b = true then we δ3 (fun v δ4 => R v (unblk δ1 δ4 vs)) E00 else S (unblk δ1 δ3 vs)) E00))
    (q : Q (.o (.l ((ys.filterMap g).map e))) δ1) : wLc wi wg wt we vs δ Q E := by
  refine hi _ ⟨fun i xs δ' => xs = ((ys.take i).filterMap g).map e ∧ δ' = δ1, ⟨rfl, rfl⟩, fun i d xs δ' hd hp => ?_, fun xs δ' hp => ?_⟩
  · obtain ⟨rfl, rfl⟩ := hp
    rw [List.getElem?_map] at hd
    cases ey : ys[i]? with
    | none => rw [ey] at hd; cases hd
    | some y =>
      rw [ey] at hd
      cases hd
      obtain ⟨h1, h2⟩ := get_pre ey
      have hm : y ∈ ys := List.mem_of_getElem? ey
      have lt : (((ys.take i).filterMap g).map e).length < sizeLine := by
        rw [sizeLine_eq, List.length_map]
        have h3 := List.length_filterMap_le g (ys.take i)
        rw [List.length_take] at h3
        omega
      refine ⟨ok, step y hm (fun v δ4 => (((ys.take i).filterMap g).map e).length < sizeLine ∧ ((ys.take i).filterMap g).map e ++ [v] = ((ys.take (i + 1)).filterMap g).map e ∧ δ4 = δ')
        (fun δ3 => ((ys.take i).filterMap g).map e = ((ys.take (i + 1)).filterMap g).map e ∧ δ3 = δ') (fun u hu => ⟨lt, ?_, rfl⟩) fun hn => ⟨?_, rfl⟩⟩
      · rw [h2, List.filterMap_append, List.map_append]
        simp [hu]
      · rw [h2, List.filterMap_append, List.map_append]
        simp [hn]
  · obtain ⟨rfl, rfl⟩ := hp
    rw [List.length_map, List.take_length]
    exact q
theorem lc_map {α β : Type} (ys : List α) (f : α → D) (g : α → β) (e : β → D) (hi : ∀ Q : List D → Dl → Prop, Q (ys.map f) δ1 → wi δ Q E) (hl : ys.length < 16777216)
    (ok : okW δ1 vs) (step : ∀ y ∈ ys, ∀ (R : D → Dl → Prop) (S : Dl → Prop), R (e (g y)) δ1 → wg (f y) (wipeD δ1 vs) (fun δ2 => wt δ2 (fun b δ3 => if b = true then we δ3 (fun v δ4 => R v (unblk δ1 δ4 vs)) E00 else S (unblk δ1 δ3 vs)) E00))
    (q : Q (.o (.l ((ys.map g).map e))) δ1) : wLc wi wg wt we vs δ Q E := by
  refine lc_of ys f (fun y => some (g y)) e hi hl ok (fun y hy R S hR hS => step y hy R S (hR _ rfl)) ?_
  rw [List.filterMap_eq_map']
  exact q
def ownB (δ : Dl) (n : Nat) : Bool := match δ[n]? with
  | some (some (.o _)) => true
  | some (some (.p _)) => true
  | _ => false
theorem okW_of {δ : Dl} {vs : List Nat} (h : vs.all (fun n => !ownB δ n) = true) : okW δ vs := fun n hn ⟨c, e⟩ => by
  have := List.all_eq_true.mp h n hn
  rcases e with e | e <;> simp [ownB, e] at this
def Jn (r : Option SD) : Prop := r = none ∨ ∃ d, r = some (.d d)
theorem Jn.no : Jn none := .inl rfl
end
end DL
namespace DL
open PySem L2
abbrev ad (K : PySem.W.Frag) (x : Str) : Addr := He.ga K x
def leStr (a b : Str) : Bool := decide (a.cps.toList ≤ b.cps.toList)
def ssort (xs : List Str) : List Str := xs.mergeSort leStr
def isort (xs : List Int) : List Int := xs.mergeSort fun a b => decide (a ≤ b)
theorem leS_eq : TX.leS = leStr := by
  funext a b
  unfold TX.leS leStr
  have h := PySem.W.dataLe_str (fun x : Str => x)
  exact congrFun (congrFun h a) b
theorem mergeSort_map {α β : Type} (f : α → β) (r : α → α → Bool) (s : β → β → Bool) (h : ∀ a b, s (f a) (f b) = r a b) (xs : List α) : (xs.map f).mergeSort s = (xs.mergeSort r).map f :=
  (List.map_mergeSort (f := f) (r := r) (s := s) fun a _ b _ => (h a b).symm).symm
theorem sSorted_of {α : Type} {f : α → D} {g : α → PyData} (k : Knd f g) (r : α → α → Bool) (hr : PySem.W.dataLe false g = r) (hd : ∀ a, (g a).depth ≤ 40) (hal : ∀ a b, PySem.W.alike (g a) (g b) = true) (hs : (∀ a, ∃ x y, g a = .tuple (x :: y)) ∨ ∀ a, g a ≠ .none ∧ ∀ xs, g a ≠ .tuple xs)
    (xs : List α) (Q : SD → Prop) : sSorted (.lst (xs.map f)) Q = Q (.o (.l ((xs.mergeSort r).map f))) := by
  have he : (xs.map f).map encD = xs.map g := by
    rw [List.map_map]
    refine List.map_congr_left fun a _ => ?_
    show (toP (f a)).getD .none = g a
    rw [k.to]; rfl
  have hl : ∀ a b, leD (f a) (f b) = r a b := fun a b => by
    rw [← hr]
    show PySem.W.dataLe false encD (f a) (f b) = _
    rw [PySem.W.dataLe_eq, PySem.W.dataLe_eq]
    show (!PySem.W.dataLt (encD (f b)) (encD (f a))) = _
    unfold encD
    rw [k.to, k.to]
    rfl
  unfold sSorted
  simp only
  rw [he, mergeSort_map f r leD hl]
  refine propext ⟨fun h => h.2.2.2, fun h => ⟨fun d hx => ?_, PySem.W.AllAlike.of hal, ?_, h⟩⟩
  · obtain ⟨a, _, rfl⟩ := List.mem_map.mp hx
    unfold eqOk
    rw [k.to]
    exact decide_eq_true (hd a)
  · rcases hs with hs | hs
    · exact PySem.W.Sortable.tuples hs
    · exact PySem.W.Sortable.others hs
theorem sSorted_str (xs : List Str) (Q : SD → Prop) : sSorted (.lst (xs.map .str)) Q = Q (.o (.l ((ssort xs).map .str))) :=
  sSorted_of Knd.str leStr leS_eq (fun a => by rw [depth_str]; exact Nat.zero_le _) (fun _ _ => rfl) (.inr fun a => ⟨fun h => (nomatch h), fun _ h => (nomatch h)⟩) xs Q
theorem sSorted_int (xs : List Int) (Q : SD → Prop) : sSorted (.lst (xs.map .int)) Q = Q (.o (.l ((isort xs).map .int))) :=
  sSorted_of Knd.int (fun a b => decide (a ≤ b)) (PySem.W.dataLe_int fun x => x) (fun a => by rw [depth_int]; exact Nat.zero_le _) (fun _ _ => rfl) (.inr fun a => ⟨fun h => (nomatch h), fun _ h => (nomatch h)⟩) xs Q
section
variable {κ β : Type} [DecidableEq κ]
def lookA (kvs : List (κ × β)) (k : κ) : Option β := (kvs.find? fun p => decide (p.1 = k)).map (·.2)
def putA (kvs : List (κ × β)) (k : κ) (v : β) : List (κ × β) := if (kvs.any fun p => decide (p.1 = k)) = true then kvs.map (fun p => if p.1 = k then (p.1, v) else p) else kvs ++ [(k, v)]
def encA (e : κ → Key) (f : β → D) (kvs : List (κ × β)) : List (Key × D) := kvs.map fun p => (e p.1, f p.2)
variable {e : κ → Key} {f : β → D}
theorem valG_enc (he : ∀ a b, e a = e b ↔ a = b) (kvs : List (κ × β)) (k : κ) : valG (encA e f kvs) (e k) = (lookA kvs k).map f := by
  unfold valG lookA encA
  rw [List.find?_map, Option.map_map, Option.map_map]
  have : ((fun p : Key × D => decide (p.1 = e k)) ∘ fun p : κ × β => (e p.1, f p.2)) = fun p : κ × β => decide (p.1 = k) := by
    funext p
    simp [he]
  rw [this]
  rfl
theorem putG_enc (he : ∀ a b, e a = e b ↔ a = b) (kvs : List (κ × β)) (k : κ) (v : β) : putG (encA e f kvs) (e k) (f v) = encA e f (putA kvs k v) := by
  unfold putG putA encA
  have h1 : ((kvs.map fun p => (e p.1, f p.2)).any fun p => decide (p.1 = e k)) = kvs.any fun p => decide (p.1 = k) := by
    rw [List.any_map]
    congr 1
    funext p
    simp [he]
  rw [h1]
  split
  · rw [List.map_map, List.map_map]
    refine List.map_congr_left fun p _ => ?_
    simp only [Function.comp]
    by_cases q : p.1 = k
    · simp [q]
    · simp [q, he]
  · simp
end
theorem inl_iff (a b : Int) : (Sum.inl a : Key) = Sum.inl b ↔ a = b := by simp
theorem inr_iff (a b : Str) : (Sum.inr a : Key) = Sum.inr b ↔ a = b := by simp
theorem valG_I {β : Type} {f : β → D} (kvs : List (Int × β)) (k : Int) : valG (encA Sum.inl f kvs) (Sum.inl k) = (lookA kvs k).map f := valG_enc inl_iff kvs k
theorem valG_S {β : Type} {f : β → D} (kvs : List (Str × β)) (k : Str) : valG (encA Sum.inr f kvs) (Sum.inr k) = (lookA kvs k).map f := valG_enc inr_iff kvs k
theorem putG_I {β : Type} {f : β → D} (kvs : List (Int × β)) (k : Int) (v : β) : putG (encA Sum.inl f kvs) (Sum.inl k) (f v) = encA Sum.inl f (putA kvs k v) := putG_enc inl_iff kvs k v
theorem putG_S {β : Type} {f : β → D} (kvs : List (Str × β)) (k : Str) (v : β) : putG (encA Sum.inr f kvs) (Sum.inr k) (f v) = encA Sum.inr f (putA kvs k v) := putG_enc inr_iff kvs k v
theorem encA_len {κ β : Type} {e : κ → Key} {f : β → D} (kvs : List (κ × β)) : (encA e f kvs).length = kvs.length := List.length_map _
theorem keys_I {β : Type} {f : β → D} (kvs : List (Int × β)) : (encA Sum.inl f kvs).map (fun p => dKey p.1) = (kvs.map (·.1)).map .int := by
  unfold encA
  rw [List.map_map, List.map_map]
  rfl
theorem keys_S {β : Type} {f : β → D} (kvs : List (Str × β)) : (encA Sum.inr f kvs).map (fun p => dKey p.1) = (kvs.map (·.1)).map .str := by
  unfold encA
  rw [List.map_map, List.map_map]
  rfl
section
variable {κ β : Type} [DecidableEq κ]
theorem lookA_isSome {kvs : List (κ × β)} {k : κ} : (lookA kvs k).isSome = decide (k ∈ kvs.map (·.1)) := by
  unfold lookA
  rw [Option.isSome_map]
  induction kvs with
  | nil => rfl
  | cons p r ih =>
    rw [List.find?_cons]
    by_cases q : p.1 = k
    · simp [q]
    · have q' : ¬ k = p.1 := fun h => q h.symm
      simp only [q, decide_false, ih, List.map_cons, List.mem_cons, q', false_or]
end
theorem log_small {m : Int} (h : m.natAbs < 2 ^ 9000) : m.natAbs.log2 < 9000 := by
  by_cases z : m.natAbs = 0
  · rw [z]; decide
  · exact (Nat.log2_lt z).mpr h
theorem log_of {m : Int} {n : Nat} (h : m.natAbs < 2 ^ n) (hn : n ≤ 9000) : m.natAbs.log2 < 9000 := log_small (Nat.lt_of_lt_of_le h (Nat.pow_le_pow_right (by decide) hn))
theorem log_5000 {m : Int} (h0 : 0 ≤ m) (h : m ≤ 100000) : m.natAbs.log2 < 9000 := log_of (n := 20) (by omega) (by decide)
theorem insert_perm {α : Type} (xs : List α) (d : α) (k : Nat) : (xs.take k ++ [d] ++ xs.drop k).Perm (xs ++ [d]) := by
  have h : (xs.take k ++ [d] ++ xs.drop k).Perm (xs.take k ++ xs.drop k ++ [d]) := by
    rw [List.append_assoc, List.append_assoc]
    exact List.Perm.append_left _ List.perm_append_comm
  rwa [List.take_append_drop] at h
end DL
namespace DL
open PySem L2
@[irreducible] def kont (u : WS) (M : WEnds) (E : XQ) (δ : Dl) : Prop := u M E δ
theorem wSeq_k (w u : WS) (M : WEnds) (E : XQ) (δ : Dl) : wSeq w u M E δ = w { nx := kont u M E, rt := M.rt, bk := M.bk, ct := M.ct } E δ := by unfold kont; rfl
theorem kont_intro {u : WS} {M : WEnds} {E : XQ} {δ : Dl} (h : u M E δ) : kont u M E δ := by unfold kont; exact h
theorem flt_all {α : Type} (p : α → Bool) (xs : List α) : (xs.filter (fun x => !p x)).isEmpty = xs.all p := by
  induction xs with
  | nil => rfl
  | cons x xs ih =>
    rw [List.all_cons, List.filter_cons]
    cases h : p x with
    | true => rw [Bool.true_and, ← ih]; simp
    | false => simp
variable {neg : Bool} {Q : SD → Prop}
theorem Knd.eqX {α : Type} [DecidableEq α] {f : α → D} {g : α → PyData} (k : Knd f g) (hd : ∀ a, (g a).depth ≤ 40) (a b : α) : sEqX neg (f a) (f b) Q = Q (.d (.bl (neg ^^ decide (a = b)))) := by
  have ok : ∀ a, eqOk (f a) = true := fun a => by unfold eqOk; rw [k.to]; exact decide_eq_true (hd a)
  rw [sEqX_ok (ok a) (ok b), k.eq]
theorem sEqX_str {a b : Str} : sEqX neg (.str a) (.str b) Q = Q (.d (.bl (neg ^^ decide (a = b)))) := Knd.str.eqX (fun a => by rw [depth_str]; exact Nat.zero_le _) a b
theorem sEqX_int {a b : Int} : sEqX neg (.int a) (.int b) Q = Q (.d (.bl (neg ^^ decide (a = b)))) := Knd.int.eqX (fun a => by rw [depth_int]; exact Nat.zero_le _) a b
theorem sEqX_bl {a b : Bool} : sEqX neg (.bl a) (.bl b) Q = Q (.d (.bl (neg ^^ decide (a = b)))) := Knd.bl.eqX (fun a => by simp only [PyData.depth]; exact Nat.zero_le _) a b
theorem sEqX_non : sEqX neg .non .non Q = Q (.d (.bl (neg ^^ true))) := by rw [sEqX_ok eqOk_non eqOk_non]; rfl
theorem dep_map {α : Type} {g : α → PyData} {n : Nat} (h : ∀ a, (g a).depth ≤ n) (xs : List α) : PyData.depthAll (xs.map g) ≤ n := depthAll_le fun p hp => by
  obtain ⟨a, _, rfl⟩ := List.mem_map.mp hp
  exact h a
theorem dep_lst {α : Type} {g : α → PyData} {n : Nat} (h : ∀ a, (g a).depth ≤ n) (xs : List α) : (PyData.list (xs.map g)).depth ≤ n + 1 := by
  have := dep_map h xs
  simp only [PyData.depth]
  omega
theorem dep_tup {α : Type} {g : α → PyData} {n : Nat} (h : ∀ a, (g a).depth ≤ n) (xs : List α) : (PyData.tuple (xs.map g)).depth ≤ n + 1 := by
  have := dep_map h xs
  simp only [PyData.depth]
  omega
theorem sEqX_sL {a b : List Str} : sEqX neg (.lst (a.map .str)) (.lst (b.map .str)) Q = Q (.d (.bl (neg ^^ decide (a = b)))) := (Knd.lst Knd.str).eqX (fun a => Nat.le_trans (dep_lst (n := 0) (fun x => by rw [depth_str]; exact Nat.zero_le _) a) (by decide)) a b
theorem sEqX_iL {a b : List Int} : sEqX neg (.lst (a.map .int)) (.lst (b.map .int)) Q = Q (.d (.bl (neg ^^ decide (a = b)))) := (Knd.lst Knd.int).eqX (fun a => Nat.le_trans (dep_lst (n := 0) (fun x => by rw [depth_int]; exact Nat.zero_le _) a) (by decide)) a b
theorem sEqX_sT {a b : List Str} : sEqX neg (.tup (a.map .str)) (.tup (b.map .str)) Q = Q (.d (.bl (neg ^^ decide (a = b)))) := (Knd.tup Knd.str).eqX (fun a => Nat.le_trans (dep_tup (n := 0) (fun x => by rw [depth_str]; exact Nat.zero_le _) a) (by decide)) a b
end DL
namespace DL
open PySem
theorem nm_players_crew : ((("players" : Str) == "crew") = false) := by decide +kernel
theorem nm_moments_crew : ((("moments" : Str) == "crew") = false) := by decide +kernel
theorem nm_tops_crew : ((("tops" : Str) == "crew") = false) := by decide +kernel
theorem nm_above_crew : ((("above" : Str) == "crew") = false) := by decide +kernel
theorem nm_check_moment_crew : ((("check_moment" : Str) == "crew") = false) := by decide +kernel
theorem nm_with_look_crew : ((("with_look" : Str) == "crew") = false) := by decide +kernel
theorem nm_all_looks_crew : ((("all_looks" : Str) == "crew") = false) := by decide +kernel
theorem nm_until_crew : ((("until" : Str) == "crew") = false) := by decide +kernel
theorem nm_renamed_crew : ((("renamed" : Str) == "crew") = false) := by decide +kernel
theorem nm_is_pair_crew : ((("is_pair" : Str) == "crew") = false) := by decide +kernel
theorem nm_rows_crew : ((("rows" : Str) == "crew") = false) := by decide +kernel
theorem nm_least_at_crew : ((("least_at" : Str) == "crew") = false) := by decide +kernel
theorem nm_most_at_crew : ((("most_at" : Str) == "crew") = false) := by decide +kernel
theorem nm_seen_crew : ((("seen" : Str) == "crew") = false) := by decide +kernel
theorem nm_folk_crew : ((("folk" : Str) == "crew") = false) := by decide +kernel
theorem nm_shown_crew : ((("shown" : Str) == "crew") = false) := by decide +kernel
theorem nm_notes_crew : ((("notes" : Str) == "crew") = false) := by decide +kernel
theorem nm_count_crew : ((("count" : Str) == "crew") = false) := by decide +kernel
theorem nm_total_crew : ((("total" : Str) == "crew") = false) := by decide +kernel
theorem nm_look_crew : ((("look" : Str) == "crew") = false) := by decide +kernel
theorem nm_undo_crew : ((("undo" : Str) == "crew") = false) := by decide +kernel
theorem nm_copy_crew : ((("copy" : Str) == "crew") = false) := by decide +kernel
theorem nm_sight_crew : ((("sight" : Str) == "crew") = false) := by decide +kernel
theorem nm_players_seen : ((("players" : Str) == "seen") = false) := by decide +kernel
theorem nm_moments_seen : ((("moments" : Str) == "seen") = false) := by decide +kernel
theorem nm_tops_seen : ((("tops" : Str) == "seen") = false) := by decide +kernel
theorem nm_above_seen : ((("above" : Str) == "seen") = false) := by decide +kernel
theorem nm_check_moment_seen : ((("check_moment" : Str) == "seen") = false) := by decide +kernel
theorem nm_with_look_seen : ((("with_look" : Str) == "seen") = false) := by decide +kernel
theorem nm_all_looks_seen : ((("all_looks" : Str) == "seen") = false) := by decide +kernel
theorem nm_until_seen : ((("until" : Str) == "seen") = false) := by decide +kernel
theorem nm_renamed_seen : ((("renamed" : Str) == "seen") = false) := by decide +kernel
theorem nm_is_pair_seen : ((("is_pair" : Str) == "seen") = false) := by decide +kernel
theorem nm_rows_seen : ((("rows" : Str) == "seen") = false) := by decide +kernel
theorem nm_least_at_seen : ((("least_at" : Str) == "seen") = false) := by decide +kernel
theorem nm_most_at_seen : ((("most_at" : Str) == "seen") = false) := by decide +kernel
theorem nm_crew_seen : ((("crew" : Str) == "seen") = false) := by decide +kernel
theorem nm_folk_seen : ((("folk" : Str) == "seen") = false) := by decide +kernel
theorem nm_shown_seen : ((("shown" : Str) == "seen") = false) := by decide +kernel
theorem nm_notes_seen : ((("notes" : Str) == "seen") = false) := by decide +kernel
theorem nm_count_seen : ((("count" : Str) == "seen") = false) := by decide +kernel
theorem nm_total_seen : ((("total" : Str) == "seen") = false) := by decide +kernel
theorem nm_look_seen : ((("look" : Str) == "seen") = false) := by decide +kernel
theorem nm_undo_seen : ((("undo" : Str) == "seen") = false) := by decide +kernel
theorem nm_copy_seen : ((("copy" : Str) == "seen") = false) := by decide +kernel
theorem nm_sight_seen : ((("sight" : Str) == "seen") = false) := by decide +kernel
theorem nm_players_folk : ((("players" : Str) == "folk") = false) := by decide +kernel
theorem nm_moments_folk : ((("moments" : Str) == "folk") = false) := by decide +kernel
theorem nm_tops_folk : ((("tops" : Str) == "folk") = false) := by decide +kernel
theorem nm_above_folk : ((("above" : Str) == "folk") = false) := by decide +kernel
theorem nm_check_moment_folk : ((("check_moment" : Str) == "folk") = false) := by decide +kernel
theorem nm_with_look_folk : ((("with_look" : Str) == "folk") = false) := by decide +kernel
theorem nm_all_looks_folk : ((("all_looks" : Str) == "folk") = false) := by decide +kernel
theorem nm_until_folk : ((("until" : Str) == "folk") = false) := by decide +kernel
theorem nm_renamed_folk : ((("renamed" : Str) == "folk") = false) := by decide +kernel
theorem nm_is_pair_folk : ((("is_pair" : Str) == "folk") = false) := by decide +kernel
theorem nm_rows_folk : ((("rows" : Str) == "folk") = false) := by decide +kernel
theorem nm_least_at_folk : ((("least_at" : Str) == "folk") = false) := by decide +kernel
theorem nm_most_at_folk : ((("most_at" : Str) == "folk") = false) := by decide +kernel
theorem nm_crew_folk : ((("crew" : Str) == "folk") = false) := by decide +kernel
theorem nm_seen_folk : ((("seen" : Str) == "folk") = false) := by decide +kernel
theorem nm_shown_folk : ((("shown" : Str) == "folk") = false) := by decide +kernel
theorem nm_notes_folk : ((("notes" : Str) == "folk") = false) := by decide +kernel
theorem nm_count_folk : ((("count" : Str) == "folk") = false) := by decide +kernel
theorem nm_total_folk : ((("total" : Str) == "folk") = false) := by decide +kernel
theorem nm_look_folk : ((("look" : Str) == "folk") = false) := by decide +kernel
theorem nm_undo_folk : ((("undo" : Str) == "folk") = false) := by decide +kernel
theorem nm_copy_folk : ((("copy" : Str) == "folk") = false) := by decide +kernel
theorem nm_sight_folk : ((("sight" : Str) == "folk") = false) := by decide +kernel
theorem nm_players_shown : ((("players" : Str) == "shown") = false) := by decide +kernel
theorem nm_moments_shown : ((("moments" : Str) == "shown") = false) := by decide +kernel
theorem nm_tops_shown : ((("tops" : Str) == "shown") = false) := by decide +kernel
theorem nm_above_shown : ((("above" : Str) == "shown") = false) := by decide +kernel
theorem nm_check_moment_shown : ((("check_moment" : Str) == "shown") = false) := by decide +kernel
theorem nm_with_look_shown : ((("with_look" : Str) == "shown") = false) := by decide +kernel
theorem nm_all_looks_shown : ((("all_looks" : Str) == "shown") = false) := by decide +kernel
theorem nm_until_shown : ((("until" : Str) == "shown") = false) := by decide +kernel
theorem nm_renamed_shown : ((("renamed" : Str) == "shown") = false) := by decide +kernel
theorem nm_is_pair_shown : ((("is_pair" : Str) == "shown") = false) := by decide +kernel
theorem nm_rows_shown : ((("rows" : Str) == "shown") = false) := by decide +kernel
theorem nm_least_at_shown : ((("least_at" : Str) == "shown") = false) := by decide +kernel
theorem nm_most_at_shown : ((("most_at" : Str) == "shown") = false) := by decide +kernel
theorem nm_crew_shown : ((("crew" : Str) == "shown") = false) := by decide +kernel
theorem nm_seen_shown : ((("seen" : Str) == "shown") = false) := by decide +kernel
theorem nm_folk_shown : ((("folk" : Str) == "shown") = false) := by decide +kernel
theorem nm_notes_shown : ((("notes" : Str) == "shown") = false) := by decide +kernel
theorem nm_count_shown : ((("count" : Str) == "shown") = false) := by decide +kernel
theorem nm_total_shown : ((("total" : Str) == "shown") = false) := by decide +kernel
theorem nm_look_shown : ((("look" : Str) == "shown") = false) := by decide +kernel
theorem nm_undo_shown : ((("undo" : Str) == "shown") = false) := by decide +kernel
theorem nm_copy_shown : ((("copy" : Str) == "shown") = false) := by decide +kernel
theorem nm_sight_shown : ((("sight" : Str) == "shown") = false) := by decide +kernel
theorem nm_players_notes : ((("players" : Str) == "notes") = false) := by decide +kernel
theorem nm_moments_notes : ((("moments" : Str) == "notes") = false) := by decide +kernel
theorem nm_tops_notes : ((("tops" : Str) == "notes") = false) := by decide +kernel
theorem nm_above_notes : ((("above" : Str) == "notes") = false) := by decide +kernel
theorem nm_check_moment_notes : ((("check_moment" : Str) == "notes") = false) := by decide +kernel
theorem nm_with_look_notes : ((("with_look" : Str) == "notes") = false) := by decide +kernel
theorem nm_all_looks_notes : ((("all_looks" : Str) == "notes") = false) := by decide +kernel
theorem nm_until_notes : ((("until" : Str) == "notes") = false) := by decide +kernel
theorem nm_renamed_notes : ((("renamed" : Str) == "notes") = false) := by decide +kernel
theorem nm_is_pair_notes : ((("is_pair" : Str) == "notes") = false) := by decide +kernel
theorem nm_rows_notes : ((("rows" : Str) == "notes") = false) := by decide +kernel
theorem nm_least_at_notes : ((("least_at" : Str) == "notes") = false) := by decide +kernel
theorem nm_most_at_notes : ((("most_at" : Str) == "notes") = false) := by decide +kernel
theorem nm_crew_notes : ((("crew" : Str) == "notes") = false) := by decide +kernel
theorem nm_seen_notes : ((("seen" : Str) == "notes") = false) := by decide +kernel
theorem nm_folk_notes : ((("folk" : Str) == "notes") = false) := by decide +kernel
theorem nm_shown_notes : ((("shown" : Str) == "notes") = false) := by decide +kernel
theorem nm_count_notes : ((("count" : Str) == "notes") = false) := by decide +kernel
theorem nm_total_notes : ((("total" : Str) == "notes") = false) := by decide +kernel
theorem nm_look_notes : ((("look" : Str) == "notes") = false) := by decide +kernel
theorem nm_undo_notes : ((("undo" : Str) == "notes") = false) := by decide +kernel
theorem nm_copy_notes : ((("copy" : Str) == "notes") = false) := by decide +kernel
theorem nm_sight_notes : ((("sight" : Str) == "notes") = false) := by decide +kernel
end DL
namespace DL
open PySem L2
section
variable {Φ : Fam}
end
end DL
namespace Sp
open PySem L2 DL
theorem ints?_map (ns : List Int) : ints? (ns.map D.int) = some ns := by
  induction ns with
  | nil => rfl
  | cons n ns ih => simp [ints?, ih]
end Sp
namespace DL
open PySem L2
section
variable {Φ : Fam} {W : WX} {e e2 : Expr} {pos cpos apos p2 : Pos} {x : Str}
def wPopAt (n : Nat) (w : WF) : WE := fun δ Q E => (∃ xs, ownOf δ n = some (.l xs)) ∧ w δ (fun d δ1 => match ownOf δ1 n, d with
  | some (.l xs), .int i => ∃ (j : Nat) (y : D), i = (j : Int) ∧ j < 2 ^ 62 ∧ xs[j]? = some y ∧ Q (.d y) (keepKind δ1 n (.l (xs.eraseIdx j)))
  | _, _ => False) E
theorem RepL.eraseIdx {K : PySem.W.Frag} {F : Hp} : ∀ {vs : List V} {ds : List D} (j : Nat), RepL K F vs ds → RepL K F (vs.eraseIdx j) (ds.eraseIdx j)
  | _, _, _, .nil => .nil
  | _, _, 0, .cons _ h => h
  | _, _, j + 1, .cons a h => .cons a (RepL.eraseIdx j h)
def wIns (n : Nat) (w : WL) : WE := fun δ Q E => (∃ xs, ownOf δ n = some (.l xs)) ∧ w δ (fun ds δ1 => match ownOf δ1 n, ds with
  | some (.l xs), [.int i, y] => xs.length < sizeLine ∧ 0 ≤ i ∧ i < 2 ^ 63 ∧ Q (.d .non) (keepKind δ1 n (.l (xs.take i.toNat ++ [y] ++ xs.drop i.toNat)))
  | _, _ => False) E
def wRevM (n : Nat) : WE := fun δ Q E => match ownOf δ n with
  | some (.l xs) => Q (.d .non) (keepKind δ n (.l xs.reverse))
  | _ => False
def wClr (n : Nat) : WE := fun δ Q E => match ownOf δ n with
  | some (.l _) => Q (.d .non) (keepKind δ n (.l []))
  | _ => False
end
end DL
namespace DL
open PySem L2
section
variable {K : PySem.W.Frag} {B : Bs} {F H H' : Hp} {σ : St} {δ : Dl}
theorem RB.hmono (r : RB K B F H σ δ) (hh : Same H H') : RB K B F H' σ δ ∧ Stp σ δ δ F H F H' := by
  have oa : ∀ {a c}, OwnA K F H a c → OwnA K F H' a c := fun {a c} ⟨h1, u, h2, h3⟩ => ⟨h1, u, hh _ _ h2, h3⟩
  exact ⟨⟨fun b o e => hh _ _ (r.sub b o e), r.len, r.dat, fun i c e => let ⟨a, h1, h2, h3⟩ := r.own i c e; ⟨a, h1, oa h2, h3⟩, fun i c e => let ⟨a, h1, h2, h3⟩ := r.par i c e; ⟨a, h1, oa h2, h3⟩, r.apt, r.f0,
    fun b o e n => hh _ _ (r.h0 b o e n), fun b hb => let ⟨h1, ⟨o, h2, nt⟩, h3⟩ := r.hO b hb; ⟨h1, ⟨o, hh _ _ h2, nt⟩, h3⟩, r.nw⟩,
    ⟨.refl _, fun b o e _ => hh _ _ e, fun b o e _ => .inl ⟨o, e⟩, fun _ z => z, fun b o e => ⟨o, hh _ _ e⟩⟩⟩
def plSD : SD → Bool
  | .d .non | .d (.bl _) | .d (.int _) | .d (.str _) => true
  | _ => false
theorem SR.plain {B' : Bs} {H0 F1 H1 F2 H2 : Hp} {τ τ' : St} {α α' : Dl} {v : V} {sd : SD} (h : plSD sd = true) (s : SR K B H0 F1 H1 τ α v sd) : SR K B' H F2 H2 τ' α' v sd := by
  unfold plSD at h
  split at h
  · cases s; exact .non
  · cases s; exact .bl _
  · cases s; exact .int _
  · cases s; exact .str _
  · cases h
end
section
variable {Φ : Fam} {W : WX} {e1 e2 : Expr} {k j : Nat} {x y : Str} {ps : List Str} {ds : DSp} {pos p p2 : Pos}
def wFnL3 (ds : DSp) (n : Nat) (wa wb : WF) : WE := fun δ Q E => wa δ (fun x δ1 => wb δ1 (fun y δ2 => match ownOf δ2 n with
  | some (.l zs) => ds (argsD [x, y, .lst zs]) (fun sd _ => plSD sd = true ∧ Q sd δ2) (fun _ _ _ _ => False)
  | _ => False) E) E
end
end DL
namespace DL
open PySem L2
section
variable {Φ : Fam} {W : WX} {e : Expr} {pos p p2 pos2 : Pos}
def wListRg (w : WF) : WE := fun δ Q E => w δ (fun d δ1 => match d with
  | .int n => n ≤ 16777216 ∧ 0 ≤ n ∧ Q (.o (.l (rangeD 0 n.toNat))) δ1
  | _ => False) E
end
end DL
namespace DL
open PySem L2
section
variable {Φ : Fam} {W : WX} {e : Expr} {lo hi : Option Expr} {pos p2 : Pos}
def wCutS (w : WO) (wl wh : WP) : WE := fun δ Q E => w δ (fun o δ1 => wl δ1 (fun l δ2 => wh δ2 (fun h δ3 => match view δ3 o with
  | some (.str z) => z.length ≤ sizeLine ∧ Q (.d (.str (cutS z l h))) δ3
  | _ => False) E) E) E
end
end DL
namespace DL
open PySem L2
section
variable {X : Cx}
end
section
variable {Φ : Fam}
def sMulS : S2 := fun x y Q => match x, y with
  | .str z, .int n => MulOk z n ∧ Q (.d (.str (Txt.mul z n)))
  | _, _ => False
end
end DL
namespace DL
open PySem L2
section
variable {α : Type}
def valT (kvs : List (List Key × α)) (k : List Key) : Option α := (kvs.find? fun p => decide (p.1 = k)).map (·.2)
def putT (kvs : List (List Key × α)) (k : List Key) (v : α) : List (List Key × α) := if (kvs.any fun p => decide (p.1 = k)) = true then kvs.map (fun p => if p.1 = k then (p.1, v) else p) else kvs ++ [(k, v)]
end
def keysD : List D → Option (List Key)
  | [] => some []
  | d :: ds => match keyD d, keysD ds with
    | some k, some ks => some (k :: ks)
    | _, _ => none
def keyT : D → Option (List Key)
  | .tup ds => keysD ds
  | _ => none
section
variable {K : PySem.W.Frag} {F H : Hp} {v : V}
theorem RepL.keys : ∀ {vs : List V} {ds : List D} {ks : List Key}, RepL K F vs ds → keysD ds = some ks → vs = ks.map kV
  | _, _, _, .nil, e => by cases e; rfl
  | _, _, _, .cons (d := d) (ds := ds) h r, e => by
    unfold keysD at e
    cases e1 : keyD d with
    | none => rw [e1] at e; cases e
    | some k =>
      cases e2 : keysD ds with
      | none => rw [e1, e2] at e; cases e
      | some ks =>
        rw [e1, e2] at e
        cases e
        rw [List.map_cons, h.key e1, RepL.keys r e2]
theorem Rep.keyT {x : D} {ks : List Key} (h : Rep K F v x) (e : keyT x = some ks) : ∃ b, v = .ref b ∧ F b = some (.tup (ks.map kV)) := by
  cases x with
  | tup ds =>
    cases h with
    | tup h1 h2 =>
      have := h2.keys (show keysD ds = some ks from e)
      subst this
      exact ⟨_, rfl, h1⟩
  | _ => cases e
theorem PR.keyT {x : D} {ks : List Key} (s : Same F H) (h : PR K F H v x) (e : keyT x = some ks) : ∃ b, v = .ref b ∧ H b = some (.tup (ks.map kV)) := by
  rcases h with h | ⟨a, c, rfl, q, h⟩
  · obtain ⟨b, rfl, h2⟩ := h.keyT e
    exact ⟨b, rfl, s _ _ h2⟩
  · subst q
    cases c <;> cases e
theorem RepT.val {k : List Key} : ∀ {vs : List (List Key × V)} {ds : List (List Key × D)}, RepT K F vs ds → (valV vs k).isSome = (valT ds k).isSome
  | _, _, .nil => rfl
  | _, _, .cons (k := k') h r => by
    unfold valT valV
    simp only [List.find?]
    by_cases q : k' = k
    · simp only [q, decide_true]
      rfl
    · simp only [q, decide_false]
      exact RepT.val r
theorem RepT.any {k : List Key} : ∀ {vs : List (List Key × V)} {ds : List (List Key × D)}, RepT K F vs ds → (vs.any fun p => decide (p.1 = k)) = (ds.any fun p => decide (p.1 = k))
  | _, _, .nil => rfl
  | _, _, .cons _ r => by rw [List.any_cons, List.any_cons, RepT.any r]
theorem RepT.len : ∀ {vs : List (List Key × V)} {ds : List (List Key × D)}, RepT K F vs ds → vs.length = ds.length
  | _, _, .nil => rfl
  | _, _, .cons _ r => congrArg (· + 1) (RepT.len r)
theorem RepT.app : ∀ {vs us : List (List Key × V)} {ds es : List (List Key × D)}, RepT K F vs ds → RepT K F us es → RepT K F (vs ++ us) (ds ++ es)
  | _, _, _, _, .nil, s => s
  | _, _, _, _, .cons h r, s => .cons h (RepT.app r s)
theorem RepT.repl {k : List Key} {d : D} {v : V} (q : Rep K F v d) : ∀ {vs : List (List Key × V)} {ds : List (List Key × D)}, RepT K F vs ds → RepT K F (vs.map fun p => if p.1 = k then (p.1, v) else p) (ds.map fun p => if p.1 = k then (p.1, d) else p)
  | _, _, .nil => .nil
  | _, _, .cons (k := k') h r => by
    rw [List.map_cons, List.map_cons]
    by_cases z : k' = k
    · simp only [z, if_true]
      exact .cons q (RepT.repl q r)
    · simp only [z, if_false]
      exact .cons h (RepT.repl q r)
theorem RepT.put {k : List Key} {d : D} {v : V} (q : Rep K F v d) {vs : List (List Key × V)} {ds : List (List Key × D)} (r : RepT K F vs ds) : RepT K F (putK vs k v) (putT ds k d) := by
  unfold putK putT
  rw [RepT.any r]
  split
  · exact RepT.repl q r
  · exact r.app (.cons q .nil)
theorem PR.dct {xs : List (List Key × D)} (s : Same F H) (h : PR K F H v (.dct xs)) : ∃ a vs, v = .ref a ∧ H a = some (.dT vs) ∧ RepT K F vs xs := by
  rcases h with h | ⟨a, c, rfl, e, h⟩
  · cases h with
    | dct h1 h2 => exact ⟨_, _, rfl, s _ _ h1, h2⟩
  · cases c with
    | t ys =>
      cases e
      obtain ⟨_, ho, h2, h3⟩ := h
      obtain ⟨vs, rfl, h4⟩ := h3.dT
      exact ⟨a, vs, rfl, h2, h4⟩
    | l ys => cases e
    | k ys => cases e
    | ob C ys => cases e
end
section
variable {Φ : Fam} {W : WX} {o i e val : Expr} {pos pos' : Pos}
def wNewT : WE := fun δ Q _ => Q (.o (.t [])) δ
def wPutT (n : Nat) (wi wv : WF) : WS := fun M E δ => wv δ (fun x δ1 => (∃ c, ownOf δ1 n = some c) ∧ wi δ1 (fun y δ2 => match ownOf δ2 n, keyT y with
  | some (.t kvs), some k => kvs.length < sizeLine ∧ M.nx (keepKind δ2 n (.t (putT kvs k x)))
  | _, _ => False) E) E
def wInT (neg : Bool) (wi wo : WO) : WE := fun δ Q E => wi δ (fun o2 δ1 => wo δ1 (fun o1 δ2 => match view δ2 o1, (view δ2 o2).bind keyT with
  | some (.dct kvs), some k => Q (.d (.bl (neg ^^ (valT kvs k).isSome))) δ2
  | _, _ => False) E) E
end
end DL
namespace DL
open PySem PySem.Spec L2 PyProof.Rows
def asBN (Q : Bool → Dl → Prop) : SD → Dl → Prop := fun sd δ => match sd with
  | .d (.bl k) => Q k δ
  | .d .non => Q false δ
  | _ => False
def wBN (w : WE) : WT := fun δ Q E => w δ (asBN Q) E
end DL
namespace DL
open PySem L2
variable {wi : WI} {wg : WG} {wt : WT} {we : WF} {vs : List Nat} {δ : Dl} {Q : SD → Dl → Prop} {E : XQ}
end DL
namespace DL
open PySem L2
def lentD (δ : Dl) (n : Nat) (zs : List D) : Dl := (δ.map fun s => match s with
  | some (.d x) => some (.d x)
  | _ => none).set n (some (.d (.lst zs)))
def nlSD : SD → Bool
  | .o (.l []) => true
  | sd => plSD sd
def wLend (n : Nat) (w : WE) : WE := fun δ Q E => match ownOf δ n with
  | some (.l zs) => w (lentD δ n zs) (fun sd _ => nlSD sd = true ∧ Q sd δ) (fun _ _ _ _ => False)
  | _ => False
section
variable {Φ : Fam} {W : WX} {e : Expr}
end
end DL
namespace DL
open PySem L2
section
variable {K : PySem.W.Frag} {B : Bs} {F H : Hp} {σ : St} {δ : Dl}
end
section
variable {Φ : Fam} {W : WX} {pos p : Pos}
def wRetO (n : Nat) : WS := fun M _ δ => match δ[n]? with
  | some (some (.o c)) => M.rt (.o c) (δ.set n none)
  | some (some (.d x)) => M.rt (.d x) δ
  | _ => False
end
end DL
namespace DL
open PySem L2
section
variable {Φ : Fam} {W : WX} {e : Expr} {lo hi : Option Expr} {pos p2 : Pos}
def wCutT (w : WO) (wl wh : WP) : WE := fun δ Q E => w δ (fun o δ1 => wl δ1 (fun l δ2 => wh δ2 (fun h δ3 => match view δ3 o with
  | some (.tup xs) => ¬ (HT.sIx xs.length 0 l = 0 ∧ HT.sIx xs.length xs.length h = xs.length) ∧ Q (.d (.tup (cutD xs l h))) δ3
  | _ => False) E) E) E
end
end DL
namespace DL
open PySem L2
section
variable {K : PySem.W.Frag} {B : Bs} {F F' H H' : Hp} {σ σ' : St} {δ δ' : Dl}
structure Gho (K : PySem.W.Frag) (B : Bs) (F H : Hp) (σ : St) (δ : Dl) (b : Addr) (kvs : List (Key × D)) : Prop where
  f : F b = none
  h : ∃ us, H b = some (.dK us) ∧ RepK K F us kvs
  o : ¬ Ow σ δ b
  n : B.H b = none
theorem Gho.step {b : Addr} {kvs : List (Key × D)} (g : Gho K B F H σ δ b kvs) (s : Stp σ δ δ' F H F' H') : Gho K B F' H' σ δ' b kvs := by
  obtain ⟨us, h1, h2⟩ := g.h
  refine ⟨?_, ⟨us, s.h _ _ h1 g.o, h2.mono s.f⟩, fun z => g.o (s.o _ z), g.n⟩
  cases e : F' b with
  | none => rfl
  | some o =>
    rcases s.n b o e (fun z => (show CnR K F (.dK us) (.k kvs) from h2).nkt (z.at h1)) with ⟨o', q⟩ | q | q
    · rw [g.f] at q; cases q
    · rw [h1] at q; cases q
    · exact absurd q g.o
end
section
variable {Φ : Fam} {W : WX} {tg iter c ke ve : Expr} {rs : List Stmt} {y f : Str} {p1 p2 pd pa p3 p4 p5 p6 pif pf : Pos} {C : Addr} {k : Nat}
end
end DL
namespace DL
open PySem L2
mutual
def flat : D → Bool
  | .non => true
  | .bl _ => true
  | .int _ => true
  | .str _ => true
  | .lst xs => flatL xs
  | .tup xs => flatL xs
  | _ => false
def flatL : List D → Bool
  | [] => true
  | x :: xs => flat x && flatL xs
end
def flatSD : SD → Bool
  | .d x => flat x
  | .o (.l xs) => flatL xs
  | .p (.l xs) => flatL xs
  | _ => false
def flatAll (δ : Dl) (n : Nat) : Bool := (δ.set n none).all fun s => match s with
  | none => true
  | some sd => flatSD sd
section
variable {K : PySem.W.Frag} {F : Hp} {a : Addr} {us : List (Key × V)}
end
section
variable {Φ : Fam} {W : WX} {e : Expr}
def wKeep (n : Nat) (w : WE) : WE := fun δ Q E => match δ[n]? with
  | some (some (.o (.k kvs))) => flatL (kvs.map (·.2)) = true ∧ w (δ.set n (some (.d (.dic kvs)))) (fun sd δ' => δ'[n]? = some (some (.d (.dic kvs))) ∧ flatAll δ' n = true ∧ flatSD sd = true ∧ Q sd (δ'.set n (some (.o (.k kvs))))) E
  | _ => False
end
end DL
namespace DL
open PySem L2
def inHp : D → Bool
  | .lst _ => true
  | .tup _ => true
  | .dic _ => true
  | .dct _ => true
  | .obj _ _ => true
  | _ => false
section
variable {Φ : Fam} {W : WX} {st : Stmt} {e a : Expr} {pos p p2 : Pos} {x : Str} {C : Addr}
def wTag (n : Nat) (w : WS) : WS := fun M E δ => match δ[n]? with
  | some (some (.d x)) => if inHp x = true then ∀ a, w M E (δ.set n (some (.d (.at a x)))) else w M E δ
  | some (some (.o c)) => ∀ a, w M E (δ.set n (some (.d (.at a c.fz))))
  | _ => w M E δ
theorem RB.tag {K : PySem.W.Frag} {B : Bs} {F H : Hp} {σ : St} {δ : Dl} {n : Nat} {a : Addr} {x : D} (r : RB K B F H σ δ) (h : δ[n]? = some (some (.d x))) (hs : σ[n]? = some (some (.ref a))) (rp : Rep K F (.ref a) x) : RB K B F H σ (δ.set n (some (.d (.at a x)))) := by
  have hn : n < δ.length := (List.getElem?_eq_some_iff.mp h).1
  have z := r.put (H0 := H) (v := .ref a) (sd := .d (.at a x)) (i := n) (.at rp) hn
  have e : σ.set n (some (.ref a)) = σ := by
    obtain ⟨h1, h2⟩ := List.getElem?_eq_some_iff.mp hs
    rw [← h2]
    exact List.set_getElem_self h1
  rwa [e] at z
def wVarS (i : Nat) : WF := fun δ Q E => wVar i δ (fun x δ' => Q x.strip δ') E
theorem DF.strip {w : WF} (h : DF Φ W e w) : DF Φ W e (fun δ Q E => w δ (fun x δ' => Q x.strip δ') E) := by
  obtain ⟨t, h1, h2⟩ := h
  exact ⟨t, h1, fun B F H σ δ Q E Qh r hw p xl => h2 B F H σ δ _ E Qh r hw (fun v F' H' x δ' r' s' rp q => p v F' H' _ δ' r' s' rp.strip q) xl⟩
end
end DL
namespace DL
open PySem PySem.Spec PyProof.Rows L2
section
variable {X : Cx}
end
section
variable {Φ : Fam} {W : WX} {e : Expr} {p1 p3 pos : Pos}
end
end DL
namespace DL
open PySem PySem.Spec PyProof.Rows L2
open PyProof.Rows (envOfC)
structure RoomQ (k : Nat) (A : Around) : Prop where
  dep : A.depth + 3 * k + 5 < recursionLimit
  uni : A.units + 16 * k + 200 < cLine
theorem RoomQ.of {k : Nat} {A : Around} (r : Room k A) : RoomQ k A := ⟨r.dp, r.un⟩
theorem RoomQ.mono {j k : Nat} {A : Around} (r : RoomQ k A) (h : j ≤ k) : RoomQ j A := ⟨by have := r.dep; omega, by have := r.uni; omega⟩
theorem RoomQ.deep {k : Nat} {A : Around} (r : RoomQ (k + 1) A) (env : Env) : RoomQ k (A.deeper env) := by
  constructor
  · have := r.dep
    show A.depth + 1 + 3 * k + 5 < recursionLimit
    omega
  · have := r.uni
    show A.units + 3 + 16 * k + 200 < cLine
    omega
structure FnQ (P : Program) (w : World) (K : PySem.W.Frag) (mg : Str → Option Value) (base : Heap) (CX : CXT) (k : Nat) (f : Addr) (fd : FuncData) (ps : List Str) (sp : Sp) : Prop where
  len : ∀ vs H Q E, sp vs H Q E → vs.length = ps.length
  go : ∀ (A : Around) (out : List Env) (s : Shared) (H : Hp) (args : Args) (us : List Value) (vs : List V) (Q : VK) (E : XK), RoomQ k A → Env0 P w K mg base A out s H → BindsTo s fd args (ps.zip us) → Vals vs us → sp vs H Q E →
    codeAny (model P w) A (.call (.ref f) args) (CR CX out P w H s Q E) s
section
variable {CX : CXT} {P : Program} {w : World} {K : PySem.W.Frag} {mg : Str → Option Value} {base : Heap} {N ps : List Str} {qual : Str} {scope : Scope} {f : Addr} {cd : Value} {A : Around} {outer : List Env} {s s1 : Shared} {H : Hp} {E : XK} {us : List Value} {vs : List V}
end
section
variable {X : Cx} {n : Nat} {C f : Addr} {fd : FuncData} {ps : List Str} {sp : Sp}
end
section
variable {Φ : Fam} {W : WX} {k j : Nat} {e1 e2 : Expr} {pos : Pos} {C : Addr} {ps : List Str} {ds : DSp}
end
structure Cq (Φ : Fam) : Prop where
  hu : ∀ i, (Φ.X i).A.units + 64 < cLine
end DL
namespace DL
open PySem PySem.Spec PyProof.Rows L2
def wUpper (w : WO) : WE := fun δ Q E => w δ (fun o δ1 => match view δ1 o with
  | some (.str a) => a.length ≤ 5592405 ∧ Q (.d (.str (Txt.upper a))) δ1
  | _ => False) E
section
variable {Φ : Fam} {W : WX} {o e : Expr} {pos apos p : Pos}
end
end DL
namespace DL
open PySem PySem.Spec PyProof.Rows L2
section
variable {Φ : Fam} {W : WX} {a : Expr} {pos p p2 : Pos} {x : Str} {C : Addr}
end
end DL
namespace DL
open PySem PySem.Spec L2
section
variable {Φ : Fam} {W : WX} {kx vx tg iter : Expr} {ifs : List Expr} {scope : Scope} {own : List (Str × Nat)} {pos : Pos}
end
end DL
namespace DL
open PySem PySem.Spec L2
section
variable {K : PySem.W.Frag} {B : Bs} {F H : Hp} {σ : St} {δ : Dl}
end
section
variable {Φ : Fam} {W : WX} {elts : List Expr} {kk : Nat} {tpos p pos apos cpos : Pos} {y : Str} {body : List Stmt}
def wItems (n : Nat) (wg : WG) (wb : WS) : WS := fun M E δ => ∃ kvs, δ[n]? = some (some (.o (.k kvs))) ∧ ∀ a : Addr, ∃ P : Nat → Dl → Prop, P 0 (δ.set n (some (.d (.vv (.ref a))))) ∧
  (∀ i k d δ', kvs[i]? = some (k, d) → P i δ' → wg (.tup [dKey k, d]) δ' (fun δ2 => wb { nx := P (i + 1), rt := fun _ _ => False, bk := fun _ => False, ct := P (i + 1) } E00 δ2)) ∧
  ∀ δ', P kvs.length δ' → δ'[n]? = some (some (.d (.vv (.ref a)))) ∧ M.nx (δ'.set n (some (.o (.k kvs))))
end
end DL
namespace DL
open PySem PySem.Spec L2
section
variable {Φ : Fam} {W : WX} {scope : Scope} {own : List (Str × Nat)} {pos p1 p2 p3 p4 p5 p6 pc ps : Pos} {y z mm : Str}
end
end DL
namespace DL
open PySem PySem.Spec L2 PyProof.Rows
section
variable {X : Cx}
end
section
variable {Φ : Fam} {W : WX} {kx vx tg iter : Expr} {ifs : List Expr} {scope : Scope} {pos : Pos}
end
end DL
namespace DL
open PySem PySem.Spec L2
def sLenD : S1 := fun x Q => match x with
  | .dic kvs => Q (.d (.int kvs.length))
  | _ => False
section
variable {Φ : Fam}
end
end DL
namespace DL
open PySem PySem.Spec L2
abbrev Rg := List (Addr × List D)
theorem nktL {vs : List V} : ¬ IsKT (.lst vs) := fun ⟨_, e⟩ => by cases e
structure RgOk (K : PySem.W.Frag) (B : Bs) (F H : Hp) (σ : St) (δ : Dl) (G : Rg) : Prop where
  nd : (G.map (·.1)).Nodup
  fr : ∀ p ∈ G, F p.1 = none ∧ B.H p.1 = none
  at_ : ∀ p ∈ G, ∃ vs, H p.1 = some (.lst vs) ∧ RepL K F vs p.2
  apt : ∀ p ∈ G, ¬ Ow σ δ p.1
section
variable {K : PySem.W.Frag} {B : Bs} {F H F' H' : Hp} {σ : St} {δ δ' : Dl} {G : Rg}
theorem RgOk.nil : RgOk K B F H σ δ [] := ⟨.nil, fun _ h => (nomatch h), fun _ h => (nomatch h), fun _ h => (nomatch h)⟩
theorem RgOk.step (g : RgOk K B F H σ δ G) (s : Stp σ δ δ' F H F' H') : RgOk K B F' H' σ δ' G := by
  refine ⟨g.nd, fun p hp => ⟨?_, (g.fr p hp).2⟩, fun p hp => ?_, fun p hp z => g.apt p hp (s.o _ z)⟩
  · obtain ⟨vs, h1, _⟩ := g.at_ p hp
    cases e : F' p.1 with
    | none => rfl
    | some o =>
      rcases s.n _ o e (fun z => nktL (z.at h1)) with ⟨o', q⟩ | q | q
      · rw [(g.fr p hp).1] at q; cases q
      · rw [h1] at q; cases q
      · exact absurd q (g.apt p hp)
  · obtain ⟨vs, h1, h2⟩ := g.at_ p hp
    exact ⟨vs, s.h _ _ h1 (g.apt p hp), h2.mono s.f⟩
theorem RgOk.heap (g : RgOk K B F H σ δ G) {a : Addr} (h : a ∈ G.map (·.1)) : ∃ o, H a = some o := by
  obtain ⟨p, hp, rfl⟩ := List.mem_map.mp h
  obtain ⟨vs, h1, _⟩ := g.at_ p hp
  exact ⟨_, h1⟩
theorem RgOk.put {H0 : Hp} {i : Nat} {v : V} {sd : SD} (g : RgOk K B F H σ δ G) (h : SR K B H0 F H σ δ v sd) (hn : ∀ a c, sd = .o c → v = .ref a → a ∉ G.map (·.1)) (hi : i < δ.length) (hs : i < σ.length) : RgOk K B F H (σ.set i (some v)) (δ.set i (some sd)) G := by
  refine ⟨g.nd, g.fr, g.at_, fun p hp ⟨j, ⟨c, e⟩, z⟩ => ?_⟩
  by_cases q : i = j
  · subst q
    rw [List.getElem?_set_self hs] at z
    rw [List.getElem?_set_self hi] at e
    have z : v = .ref p.1 := by injection z with z; injection z
    rcases e with e | e
    · injection e with e; injection e with e
      exact hn _ c e z (List.mem_map_of_mem hp)
    · injection e with e; injection e with e
      subst e
      exact h.elim
  · rw [List.getElem?_set_ne q] at z
    exact g.apt p hp ⟨j, ⟨c, by rw [List.getElem?_set_ne q] at e; exact e⟩, z⟩
def baseG (B : Bs) (F H : Hp) (G : Rg) : Bs := ⟨F, fun b => if b ∈ G.map (·.1) then H b else B.H b, B.O, B.σ⟩
theorem baseG_in {b : Addr} (h : b ∈ G.map (·.1)) : (baseG B F H G).H b = H b := if_pos h
theorem baseG_out {b : Addr} (h : b ∉ G.map (·.1)) : (baseG B F H G).H b = B.H b := if_neg h
theorem RgOk.bnone (g : RgOk K B F H σ δ G) {b : Addr} (h : b ∈ G.map (·.1)) : B.H b = none := by
  obtain ⟨p, hp, rfl⟩ := List.mem_map.mp h
  exact (g.fr p hp).2
theorem RgOk.fnone (g : RgOk K B F H σ δ G) {b : Addr} (h : b ∈ G.map (·.1)) : F b = none := by
  obtain ⟨p, hp, rfl⟩ := List.mem_map.mp h
  exact (g.fr p hp).1
theorem RgOk.now (g : RgOk K B F H σ δ G) {b : Addr} (h : b ∈ G.map (·.1)) : ¬ Ow σ δ b := by
  obtain ⟨p, hp, rfl⟩ := List.mem_map.mp h
  exact g.apt p hp
theorem RB.inG (r : RB K B F H σ δ) (g : RgOk K B F H σ δ G) : RB K (baseG B F H G) F H σ δ := by
  refine ⟨r.sub, r.len, r.dat, fun i c e => ?_, fun i c e => ?_, r.apt, .refl _, fun b o e n => ?_, fun b hb => ?_, fun b o e _ => .inl ⟨o, e⟩⟩
  · obtain ⟨a, h1, h2, h3⟩ := r.own i c e
    refine ⟨a, h1, h2, ?_⟩
    by_cases q : a ∈ G.map (·.1)
    · exact absurd ⟨i, ⟨c, .inl e⟩, h1⟩ (g.now q)
    · rw [baseG_out q]; exact h3
  · exact r.par i c e
  · by_cases q : b ∈ G.map (·.1)
    · rw [baseG_in q] at e; exact e
    · rw [baseG_out q] at e; exact r.h0 b o e n
  · obtain ⟨h1, h2, o, h3⟩ := r.hO b hb
    have q : b ∉ G.map (·.1) := fun q => by rw [g.bnone q] at h3; cases h3
    exact ⟨h1, h2, o, by rw [baseG_out q]; exact h3⟩
theorem RB.outG {F2 H2 : Hp} {σ2 : St} {δ2 : Dl} (r : RB K B F H σ δ) (g : RgOk K B F H σ δ G) (r2 : RB K (baseG B F H G) F2 H2 σ2 δ2) : RB K B F2 H2 σ2 δ2 ∧ RgOk K B F2 H2 σ2 δ2 G := by
  have nO : ∀ {b}, b ∈ G.map (·.1) → b ∉ B.O := fun {b} q h => by
    obtain ⟨_, _, o, h3⟩ := r.hO b h
    rw [g.bnone q] at h3; cases h3
  have hin : ∀ {b : Addr} {o : HO}, b ∈ G.map (·.1) → H b = some o → H2 b = some o := fun {b o} q h => r2.h0 b o (by rw [baseG_in q]; exact h) (nO q)
  refine ⟨⟨r2.sub, r2.len, r2.dat, fun i c e => ?_, fun i c e => r2.par i c e, r2.apt, r.f0.trans r2.f0, fun b o e n => ?_, fun b hb => ?_, fun b o e nk => ?_⟩, ⟨g.nd, fun p hp => ⟨?_, (g.fr p hp).2⟩, fun p hp => ?_, fun p hp z => ?_⟩⟩
  · obtain ⟨a, h1, h2, h3⟩ := r2.own i c e
    refine ⟨a, h1, h2, ?_⟩
    by_cases q : a ∈ G.map (·.1)
    · exact g.bnone q
    · rwa [baseG_out q] at h3
  · by_cases q : b ∈ G.map (·.1)
    · rw [g.bnone q] at e; cases e
    · exact r2.h0 b o (by rw [baseG_out q]; exact e) n
  · obtain ⟨h1, h2, o, h3⟩ := r2.hO b hb
    exact ⟨h1, h2, (r.hO b hb).2.2⟩
  · have nk2 : ¬ Kt (baseG B F H G).H b o := fun z => by
      by_cases q : b ∈ G.map (·.1)
      · obtain ⟨p, hp, rfl⟩ := List.mem_map.mp q
        obtain ⟨vs, h1, _⟩ := g.at_ p hp
        exact nktL (z.at (by rw [baseG_in q]; exact h1))
      · exact nk ⟨z.1, by have := z.2; rwa [baseG_out q] at this⟩
    rcases r2.nw b o e nk2 with ⟨o', e'⟩ | e'
    · exact r.nw b o' e' (by rw [sameOne r2.f0 e' e]; exact nk)
    · by_cases q : b ∈ G.map (·.1)
      · exact .inr (g.bnone q)
      · rw [baseG_out q] at e'; exact .inr e'
  · have q : p.1 ∈ G.map (·.1) := List.mem_map_of_mem hp
    cases e : F2 p.1 with
    | none => rfl
    | some o =>
      rcases r2.nw _ o e (fun z => by
        obtain ⟨vs, h1, _⟩ := g.at_ p hp
        exact nktL (z.at (by rw [baseG_in q]; exact h1))) with ⟨o', e'⟩ | e'
      · have e' : F p.1 = some o' := e'
        rw [(g.fr p hp).1] at e'; cases e'
      · rw [baseG_in q] at e'
        obtain ⟨u, hu⟩ := g.heap q
        rw [hu] at e'; cases e'
  · obtain ⟨vs, h1, h2⟩ := g.at_ p hp
    exact ⟨vs, hin (List.mem_map_of_mem hp) h1, h2.mono r2.f0⟩
  · have q : p.1 ∈ G.map (·.1) := List.mem_map_of_mem hp
    obtain ⟨i, ⟨c, e | e⟩, hs⟩ := z
    · obtain ⟨a, h1, h2, h3⟩ := r2.own i c e
      rw [hs] at h1
      cases h1
      rw [baseG_in q] at h3
      obtain ⟨u, hu⟩ := g.heap q
      rw [hu] at h3; cases h3
    · obtain ⟨a, h1, h2, h3, _⟩ := r2.par i c e
      rw [hs] at h1
      cases h1
      exact nO q h3
theorem SR.outG {H0 F2 H2 : Hp} {σ2 : St} {δ2 : Dl} {v : V} {sd : SD} (g : RgOk K B F H σ δ G) (h : SR K (baseG B F H G) H0 F2 H2 σ2 δ2 v sd) : SR K B H0 F2 H2 σ2 δ2 v sd := by
  cases sd with
  | d x => exact h
  | p c => exact h
  | o c =>
    obtain ⟨a, h1, h2, h3, h4, h5⟩ := h
    refine ⟨a, h1, h2, h3, ?_, h5⟩
    by_cases q : a ∈ G.map (·.1)
    · exact g.bnone q
    · rwa [baseG_out q] at h4
end
structure WEndsG where
  nx : Dl → Rg → Prop
  rt : SD → Dl → Rg → Prop
  bk : Dl → Rg → Prop := fun _ _ => False
  ct : Dl → Rg → Prop := fun _ _ => False
abbrev WSG := WEndsG → XQ → Dl → Rg → Prop
structure LKG (K : PySem.W.Frag) (B : Bs) (M : WEndsG) (D : Ends) : Prop where
  nx : ∀ F H σ δ G, RB K B F H σ δ → RgOk K B F H σ δ G → M.nx δ G → D.nx σ H
  rt : ∀ v F H σ δ sd G, RB K B F H σ δ → RgOk K B F H σ δ G → SR K B B.H F H σ δ v sd → (∀ a c, sd = .o c → v = .ref a → a ∉ G.map (·.1)) → M.rt sd δ G → D.rt v H
  bk : ∀ F H σ δ G, RB K B F H σ δ → RgOk K B F H σ δ G → M.bk δ G → D.bk σ H
  ct : ∀ F H σ δ G, RB K B F H σ δ → RgOk K B F H σ δ G → M.ct δ G → D.ct σ H
def DSG (Φ : Fam) (W : WX) (st : Stmt) (w : WSG) : Prop :=
  ∃ t, (∀ i, PS (Φ.X i) st t) ∧ ∀ (B : Bs) (F H : Hp) (σ : St) (δ : Dl) (G : Rg) (M : WEndsG) (E : XQ) (D : Ends), RB Φ.K B F H σ δ → RgOk Φ.K B F H σ δ G → w M E δ G → LKG Φ.K B M D → (∀ σ', XL Φ.K B W σ' E) → t D σ H
def DSsG (Φ : Fam) (W : WX) (st : List Stmt) (w : WSG) : Prop :=
  ∃ t, (∀ i, PSs (Φ.X i) st t) ∧ ∀ (B : Bs) (F H : Hp) (σ : St) (δ : Dl) (G : Rg) (M : WEndsG) (E : XQ) (D : Ends), RB Φ.K B F H σ δ → RgOk Φ.K B F H σ δ G → w M E δ G → LKG Φ.K B M D → (∀ σ', XL Φ.K B W σ' E) → t D σ H
def WEndsG.at_ (M : WEndsG) (G : Rg) : WEnds := { nx := fun δ => M.nx δ G, rt := fun sd δ => M.rt sd δ G, bk := fun δ => M.bk δ G, ct := fun δ => M.ct δ G }
def wLf (w : WS) : WSG := fun M E δ G => w (M.at_ G) E δ
def wCl (w : WSG) : WS := fun M E δ => w { nx := fun δ _ => M.nx δ, rt := fun sd δ _ => M.rt sd δ, bk := fun δ _ => M.bk δ, ct := fun δ _ => M.ct δ } E δ []
section
variable {Φ : Fam} {W : WX} {st : Stmt} {rest body : List Stmt} {e : Expr} {pos : Pos}
theorem XL.inG {K : PySem.W.Frag} {B : Bs} {F H : Hp} {σ σ' : St} {δ : Dl} {G : Rg} {E : XQ} (r : RB K B F H σ δ) (g : RgOk K B F H σ δ G) (x : XL K B W σ' E) : XL K (baseG B F H G) W σ' E := fun F' H' δ' C dd f v y r' hd hz rep q => by
  refine x F' H' δ' C dd f v y (r.outG g r').1 hd ?_ rep q
  by_cases c : dd ∈ G.map (·.1)
  · exact g.bnone c
  · rwa [baseG_out c] at hz
theorem LKG.inG {K : PySem.W.Frag} {B : Bs} {F H : Hp} {σ : St} {δ : Dl} {G : Rg} {M : WEndsG} {D : Ends} (r : RB K B F H σ δ) (g : RgOk K B F H σ δ G) (l : LKG K B M D) : LK K (baseG B F H G) (M.at_ G) D := by
  refine ⟨fun F2 H2 σ2 δ2 r2 q => l.nx F2 H2 σ2 δ2 G (r.outG g r2).1 (r.outG g r2).2 q, fun v F2 H2 σ2 δ2 sd r2 sr q => l.rt v F2 H2 σ2 δ2 sd G (r.outG g r2).1 (r.outG g r2).2 ?_ (fun a c e1 e2 hm => ?_) q, fun F2 H2 σ2 δ2 r2 q => l.bk F2 H2 σ2 δ2 G (r.outG g r2).1 (r.outG g r2).2 q, fun F2 H2 σ2 δ2 r2 q => l.ct F2 H2 σ2 δ2 G (r.outG g r2).1 (r.outG g r2).2 q⟩
  · refine (SR.outG g sr).old fun p z => ?_
    by_cases c : p ∈ G.map (·.1)
    · exact g.bnone c
    · rwa [baseG_out c] at z
  · subst e1 e2
    obtain ⟨b, e, _, _, h5, _⟩ := sr
    cases e
    rw [baseG_in hm] at h5
    obtain ⟨o, ho⟩ := g.heap hm
    rw [h5] at ho; cases ho
theorem dsg_lift {w : WS} (h : DS Φ W st w) : DSG Φ W st (wLf w) := by
  obtain ⟨t, h1, h2⟩ := h
  exact ⟨t, h1, fun B F H σ δ G M E D r g hw l x => h2 (baseG B F H G) F H σ δ _ E D (r.inG g) hw (l.inG r g) fun σ' => (x σ').inG r g⟩
theorem dss_cl {w : WSG} (h : DSsG Φ W rest w) : DSs Φ W rest (wCl w) := by
  obtain ⟨t, h1, h2⟩ := h
  exact ⟨t, h1, fun B F H σ δ M E D r hw l x => h2 B F H σ δ [] _ E D r .nil hw ⟨fun F H σ δ G r _ q => l.nx F H σ δ r q, fun v F H σ δ sd G r _ sr _ q => l.rt v F H σ δ sd r sr q, fun F H σ δ G r _ q => l.bk F H σ δ r q, fun F H σ δ G r _ q => l.ct F H σ δ r q⟩ x⟩
def wNextG : WSG := fun M _ δ G => M.nx δ G
def wSeqG (w u : WSG) : WSG := fun M E δ G => w { M with nx := u M E } E δ G
theorem dsgs_nil : DSsG Φ W [] wNextG := ⟨_, fun _ => pss_nil, fun B F H σ δ G M E D r g h l _ => l.nx F H σ δ G r g h⟩
theorem dsgs_cons {w u : WSG} (h : DSG Φ W st w) (h' : DSsG Φ W rest u) : DSsG Φ W (st :: rest) (wSeqG w u) := by
  obtain ⟨t, h1, h2⟩ := h
  obtain ⟨t', h1', h2'⟩ := h'
  refine ⟨_, fun i => pss_cons (h1 i) (h1' i), fun B F H σ δ G M E D r g hw l x => h2 B F H σ δ G _ E _ r g hw ⟨fun F1 H1 σ1 δ1 G1 r1 g1 q => h2' B F1 H1 σ1 δ1 G1 M E D r1 g1 q l x, l.rt, l.bk, l.ct⟩ x⟩
theorem dsgs_one {w : WSG} (h : DSG Φ W st w) : DSsG Φ W [st] w := by
  obtain ⟨t, h1, h2⟩ := h
  exact ⟨_, fun i => pss_one (h1 i), h2⟩
abbrev WEG := Dl → Rg → (SD → Dl → Rg → Prop) → XQ → Prop
abbrev WTG := Dl → Rg → (Bool → Dl → Rg → Prop) → XQ → Prop
def PostG (K : PySem.W.Frag) (B : Bs) (σ : St) (F H : Hp) (Q : SD → Dl → Rg → Prop) (Qh : VK) : Prop :=
  ∀ v F' H' sd δ' G', RB K B F' H' σ δ' → RgOk K B F' H' σ δ' G' → Same F F' → SR K B H F' H' σ δ' v sd → (∀ a c, sd = .o c → v = .ref a → a ∉ G'.map (·.1)) → (∀ a o, H a = some o → ∃ o', H' a = some o') → Q sd δ' G' → Qh v H'
def DEG (Φ : Fam) (W : WX) (e : Expr) (w : WEG) : Prop :=
  ∃ t, (∀ i, PE (Φ.X i) e t) ∧ ∀ (B : Bs) (F H : Hp) (σ : St) (δ : Dl) (G : Rg) (Q : SD → Dl → Rg → Prop) (E : XQ) (Qh : VK), RB Φ.K B F H σ δ → RgOk Φ.K B F H σ δ G → w δ G Q E → PostG Φ.K B σ F H Q Qh → XL Φ.K B W σ E → t σ H Qh
def DTG (Φ : Fam) (W : WX) (e : Expr) (w : WTG) : Prop :=
  ∃ t, (∀ i, PT (Φ.X i) e t) ∧ ∀ (B : Bs) (F H : Hp) (σ : St) (δ : Dl) (G : Rg) (Q : Bool → Dl → Rg → Prop) (E : XQ) (Qh : Bool → Hp → Prop), RB Φ.K B F H σ δ → RgOk Φ.K B F H σ δ G → w δ G Q E →
    (∀ b F' H' δ' G', RB Φ.K B F' H' σ δ' → RgOk Φ.K B F' H' σ δ' G' → Q b δ' G' → Qh b H') → XL Φ.K B W σ E → t σ H Qh
def wBsE (w : WE) : WEG := fun δ G Q E => w δ (fun sd δ' => Q sd δ' G) E
def wBsT (w : WT) : WTG := fun δ G Q E => w δ (fun b δ' => Q b δ' G) E
theorem deg_base {w : WE} (h : DE Φ W e w) : DEG Φ W e (wBsE w) := by
  obtain ⟨t, h1, h2⟩ := h
  refine ⟨t, h1, fun B F H σ δ G Q E Qh r g hw p x => h2 B F H σ δ _ E Qh r hw (fun v F' H' sd δ' r' s' sr q => p v F' H' sd δ' G r' (g.step s') s'.f sr (fun a c e1 e2 hm => ?_) s'.k q) x⟩
  subst e1 e2
  obtain ⟨b, e, _, _, _, h6⟩ := sr
  cases e
  obtain ⟨o, ho⟩ := g.heap hm
  rw [ho] at h6; cases h6
def wSetG (i : Nat) (w : WEG) : WSG := fun M E δ G => i < δ.length ∧ w δ G (fun sd δ' G' => i < δ'.length ∧ M.nx (δ'.set i (some sd)) G') E
def wRetG (w : WEG) : WSG := fun M E δ G => w δ G (fun sd δ' G' => M.rt sd δ' G') E
def wDropG (w : WEG) : WSG := fun M E δ G => w δ G (fun _ δ' G' => M.nx δ' G') E
def wIfG (c : WTG) (w u : WSG) : WSG := fun M E δ G => c δ G (fun b δ' G' => if b = true then w M E δ' G' else u M E δ' G') E
theorem dsg_set {w : WEG} (i : Nat) {x : Str} {pos' : Pos} (h : DEG Φ W e w) (hN : ∀ j, (Φ.X j).N.Nodup) (hi : ∀ j, (Φ.X j).N[i]? = some x := by intro _; rfl) (hx : ∀ j, Loc (Φ.X j).env.scope x := by intro _; first | exact Or.inl rfl | exact Or.inr rfl)
    (hs : ∀ j, swapsWith e (some (.Name x pos')) pos.line (Φ.X j).env = pure false := by intro _; rfl) (hf : ∀ j, (Φ.X j).fn x = true ∨ (Φ.X j).env.scope.names.lookup x = some .local := by intro _; first | exact .inl rfl | exact .inr rfl) :
    DSG Φ W (.Assign [.Name x pos'] e pos) (wSetG i w) := by
  obtain ⟨t, h1, h2⟩ := h
  exact ⟨_, fun j => ps_set (hN j) (hi j) (hx j) (h1 j) (hs j) (hf j), fun B F H σ δ G M E D r g hw l x => h2 B F H σ δ G _ E _ r g hw.2 (fun v F1 H1 sd δ1 G1 r1 g1 _ sr n _ q => l.nx F1 H1 _ _ G1 (r1.put sr q.1) (g1.put sr n q.1 (by rw [← r1.len]; exact q.1)) q.2) (x σ)⟩
theorem dsg_expr {w : WEG} (h : DEG Φ W e w) (hs : ∀ i, swapsWith e none pos.line (Φ.X i).env = pure false := by intro _; rfl) : DSG Φ W (.Expr e pos) (wDropG w) := by
  obtain ⟨t, h1, h2⟩ := h
  exact ⟨_, fun i => ps_expr (h1 i) (hs i), fun B F H σ δ G M E D r g hw l x => h2 B F H σ δ G _ E _ r g hw (fun v F1 H1 sd δ1 G1 r1 g1 _ sr _ _ q => l.nx F1 H1 σ δ1 G1 r1 g1 q) (x σ)⟩
theorem dsg_if {c : Expr} {a b : List Stmt} {wc : WTG} {w u : WSG} (hc : DTG Φ W c wc) (h : DSsG Φ W a w) (h' : DSsG Φ W b u) : DSG Φ W (.If c a b pos) (wIfG wc w u) := by
  obtain ⟨tc, c1, c2⟩ := hc
  obtain ⟨t, h1, h2⟩ := h
  obtain ⟨t', h1', h2'⟩ := h'
  refine ⟨_, fun i => ps_if (c1 i) (h1 i) (h1' i), fun B F H σ δ G M E D r g hw l x => c2 B F H σ δ G _ E _ r g hw (fun k F1 H1 δ1 G1 r1 g1 q => ?_) (x σ)⟩
  cases k with
  | true => rw [if_pos rfl] at q ⊢; exact h2 B F1 H1 σ δ1 G1 M E D r1 g1 q l x
  | false => rw [if_neg Bool.false_ne_true] at q ⊢; exact h2' B F1 H1 σ δ1 G1 M E D r1 g1 q l x
def wForG (wi : WI) (wg : WG) (wb : WSG) : WSG := fun M E δ G => wi δ (fun xs δ1 => ∃ P : Nat → Dl → Rg → Prop, P 0 δ1 G ∧
  (∀ i d δ G, xs[i]? = some d → P i δ G → wg d δ (fun δ2 => wb { nx := P (i + 1), rt := M.rt, bk := M.nx, ct := P (i + 1) } E δ2 G)) ∧ ∀ δ G, P xs.length δ G → M.nx δ G) E
theorem LKG.rebase {K : PySem.W.Frag} {B : Bs} {F1 H1 : Hp} {σ1 : St} {δ1 : Dl} {M : WEndsG} {D : Ends} (r1 : RB K B F1 H1 σ1 δ1) (l : LKG K B M D) : LKG K { B with F := F1 } M D :=
  have gb : ∀ {F H σ δ G}, RgOk K { B with F := F1 } F H σ δ G → RgOk K B F H σ δ G := fun g => ⟨g.nd, g.fr, g.at_, g.apt⟩
  ⟨fun F H σ δ G r g q => l.nx F H σ δ G (r1.rebase r) (gb g) q, fun v F H σ δ sd G r g sr n q => l.rt v F H σ δ sd G (r1.rebase r) (gb g) sr.bF n q, fun F H σ δ G r g q => l.bk F H σ δ G (r1.rebase r) (gb g) q, fun F H σ δ G r g q => l.ct F H σ δ G (r1.rebase r) (gb g) q⟩
theorem dsg_for {tg iter : Expr} {wi : WI} {ns : List Nat} {wg : WG} {wb : WSG} (hp : ∀ i, PassesOwn (model (Φ.X i).prog (Φ.X i).w) (Φ.X i).A (Φ.X i).env (Φ.X i).xe) (hc : ∀ i, (Φ.X i).calm = true) (hi : DI Φ W tg iter wi) (hg : DG Φ tg ns wg) (hb : DSsG Φ W body wb)
    (hs : ∀ i x, foldedSetIterable iter (Φ.X i).env x = pure x := by intro _ _; rfl) : DSG Φ W (.For tg iter body [] pos) (wForG wi wg wb) := by
  obtain ⟨ti, i1, i2⟩ := hi
  obtain ⟨g, g1, g2⟩ := hg
  obtain ⟨tb, b1, b2⟩ := hb
  refine ⟨_, fun i => ps_for (hp i) (hc i) (i1 i) (g1 i) (b1 i) (hs i), fun B F H σ δ G M E D r rg hw l x => i2 B F H σ δ _ E _ r hw (fun J F1 H1 xs δ1 r1 s1 ok q => ?_) (x σ)⟩
  obtain ⟨P, p0, ps, pd⟩ := q
  have gb : ∀ {F H σ δ G}, RgOk Φ.K { B with F := F1 } F H σ δ G → RgOk Φ.K B F H σ δ G := fun g => ⟨g.nd, g.fr, g.at_, g.apt⟩
  have rg1 : RgOk Φ.K { B with F := F1 } F1 H1 σ δ1 G := ⟨(rg.step s1).nd, (rg.step s1).fr, (rg.step s1).at_, (rg.step s1).apt⟩
  have l1 := l.rebase r1
  refine ⟨fun i m σ' H' => m = xs.length - i ∧ i ≤ xs.length ∧ ∃ F' δ' G', RB Φ.K { B with F := F1 } F' H' σ' δ' ∧ RgOk Φ.K { B with F := F1 } F' H' σ' δ' G' ∧ P i δ' G', ⟨xs.length, by simp, Nat.zero_le _, F1, δ1, G, r1.debase, rg1, p0⟩, ?_⟩
  rintro i m σ' H' ⟨rfl, hle, F', δ', G', r', g', hP⟩
  by_cases hlt : i < xs.length
  · have e : xs[i]? = some xs[i] := List.getElem?_eq_getElem hlt
    refine .inr ⟨ok.go i _ F' H' r'.f0 r'.sub e, fun σ2 H2 => ∃ F2 δ2 G2, RB Φ.K { B with F := F1 } F2 H2 σ2 δ2 ∧ RgOk Φ.K { B with F := F1 } F2 H2 σ2 δ2 G2 ∧ P (i + 1) δ2 G2, fun σ2 H2 ⟨F2, δ2, G2, r2, h2⟩ => ⟨xs.length - (i + 1), by omega, rfl, hlt, F2, δ2, G2, r2, h2⟩, fun y H2 hy => ?_⟩
    obtain ⟨F3, r3, s3, rep⟩ := ok.yld i _ _ F' H' σ' δ' y H2 e r'.f0 r' hy
    have g3 := g'.step s3
    refine g2 _ F3 H2 σ' δ' _ y _ _ r3 rep (ps i _ δ' G' e hP) fun σ4 δ4 r4 _ o4 q4 => ?_
    have g4 : RgOk Φ.K { B with F := F1 } F3 H2 σ4 δ4 G' := ⟨g3.nd, g3.fr, g3.at_, fun p hp z => g3.apt p hp (o4 _ z)⟩
    exact b2 { B with F := F1 } F3 H2 σ4 δ4 G' _ E _ r4 g4 q4 ⟨fun F5 H5 σ5 δ5 G5 r5 g5 q5 => ⟨F5, δ5, G5, r5, g5, q5⟩, fun v F5 H5 σ5 δ5 sd G5 r5 g5 sr n5 q5 => l1.rt v F5 H5 σ5 δ5 sd G5 r5 g5 sr n5 q5, fun F5 H5 σ5 δ5 G5 r5 g5 q5 => l1.nx F5 H5 σ5 δ5 G5 r5 g5 q5, fun F5 H5 σ5 δ5 G5 r5 g5 q5 => ⟨F5, δ5, G5, r5, g5, q5⟩⟩
      fun σ6 F6 H6 δ6 C dd f v y r6 => x σ6 F6 H6 δ6 C dd f v y (r1.rebase r6)
  · have e : i = xs.length := by omega
    subst e
    exact .inl ⟨ok.stop _ F' H' r'.f0 r'.sub (Nat.le_refl _), l1.nx F' H' σ' δ' G' r' g' (pd δ' G' hP)⟩
end
end DL
namespace DL
open PySem PySem.Spec L2
section
variable (G : Rg)
mutual
inductive LD : D → D → Prop
  | same (x : D) : LD x x
  | cell {a : Addr} {xs ys : List D} : (a, xs) ∈ G → LDs xs ys → LD (.vv (.ref a)) (.lst ys)
  | tag {a : Addr} {xs ys : List D} : (a, xs) ∈ G → LDs xs ys → LD (.vv (.ref a)) (.at a (.lst ys))
  | lst {xs ys : List D} : LDs xs ys → LD (.lst xs) (.lst ys)
  | tup {xs ys : List D} : LDs xs ys → LD (.tup xs) (.tup ys)
  | obj {C : Addr} {fs gs : List (Str × D)} : LDf fs gs → LD (.obj C fs) (.obj C gs)
  | err {C : Addr} {f : Str} {x y : D} : LD x y → LD (.err C f x) (.err C f y)
inductive LDs : List D → List D → Prop
  | nil : LDs [] []
  | cons {x y : D} {xs ys : List D} : LD x y → LDs xs ys → LDs (x :: xs) (y :: ys)
inductive LDf : List (Str × D) → List (Str × D) → Prop
  | nil : LDf [] []
  | cons {f : Str} {x y : D} {fs gs : List (Str × D)} : LD x y → LDf fs gs → LDf ((f, x) :: fs) ((f, y) :: gs)
end
inductive LS : Dl → Dl → Prop
  | nil : LS [] []
  | hide {s : Option SD} {δ δL : Dl} : LS δ δL → LS (s :: δ) (none :: δL)
  | d {x y : D} {δ δL : Dl} : LD G x y → LS δ δL → LS (some (.d x) :: δ) (some (.d y) :: δL)
  | o {c : Cn} {y : D} {δ δL : Dl} : LD G c.fz y → LS δ δL → LS (some (.o c) :: δ) (some (.d y) :: δL)
  | p {c : Cn} {y : D} {δ δL : Dl} : LD G c.fz y → LS δ δL → LS (some (.p c) :: δ) (some (.d y) :: δL)
end
section
variable {K : PySem.W.Frag} {F : Hp} {G : Rg}
mutual
theorem LD.rep (hc : ∀ p ∈ G, ∃ vs, F p.1 = some (.lst vs) ∧ RepL K F vs p.2) : ∀ {x y : D} {v : V}, LD G x y → Rep K F v x → Rep K F v y
  | _, _, _, .same _, h => h
  | _, _, _, .cell hm hs, h => by
    cases h
    obtain ⟨vs, h1, h2⟩ := hc _ hm
    exact .lst h1 (LDs.rep hc hs h2)
  | _, _, _, .tag hm hs, h => by
    cases h
    obtain ⟨vs, h1, h2⟩ := hc _ hm
    exact .at (.lst h1 (LDs.rep hc hs h2))
  | _, _, _, .lst hs, h => by
    cases h with
    | lst h1 h2 => exact .lst h1 (LDs.rep hc hs h2)
  | _, _, _, .tup hs, h => by
    cases h with
    | tup h1 h2 => exact .tup h1 (LDs.rep hc hs h2)
  | _, _, _, .obj hs, h => by
    cases h with
    | obj h1 h2 => exact .obj h1 (LDf.rep hc hs h2)
  | _, _, _, .err hs, h => by
    cases h with
    | err h1 h2 h3 => exact .err h1 h2 (LD.rep hc hs h3)
theorem LDs.rep (hc : ∀ p ∈ G, ∃ vs, F p.1 = some (.lst vs) ∧ RepL K F vs p.2) : ∀ {xs ys : List D} {vs : List V}, LDs G xs ys → RepL K F vs xs → RepL K F vs ys
  | _, _, _, .nil, .nil => .nil
  | _, _, _, .cons h hs, .cons r rs => .cons (LD.rep hc h r) (LDs.rep hc hs rs)
theorem LDf.rep (hc : ∀ p ∈ G, ∃ vs, F p.1 = some (.lst vs) ∧ RepL K F vs p.2) : ∀ {fs gs : List (Str × D)} {vs : List (Str × V)}, LDf G fs gs → RepF K F vs fs → RepF K F vs gs
  | _, _, _, .nil, .nil => .nil
  | _, _, _, .cons h hs, .cons r rs => .cons (LD.rep hc h r) (LDf.rep hc hs rs)
end
theorem LS.len : ∀ {δ δL : Dl}, LS G δ δL → δ.length = δL.length
  | _, _, .nil => rfl
  | _, _, .hide h => congrArg (· + 1) h.len
  | _, _, .d _ h => congrArg (· + 1) h.len
  | _, _, .o _ h => congrArg (· + 1) h.len
  | _, _, .p _ h => congrArg (· + 1) h.len
theorem LS.get : ∀ {δ δL : Dl} {i : Nat} {sd : SD}, LS G δ δL → δL[i]? = some (some sd) → ∃ y, sd = .d y ∧ ((∃ x, δ[i]? = some (some (.d x)) ∧ LD G x y) ∨ ∃ c, (δ[i]? = some (some (.o c)) ∨ δ[i]? = some (some (.p c))) ∧ LD G c.fz y)
  | _, _, _, _, .nil, e => by simp at e
  | _, _, 0, _, .hide _, e => by cases e
  | _, _, i + 1, _, .hide h, e => LS.get (i := i) h e
  | _, _, 0, _, .d l _, e => by cases e; exact ⟨_, rfl, .inl ⟨_, rfl, l⟩⟩
  | _, _, i + 1, _, .d _ h, e => LS.get (i := i) h e
  | _, _, 0, _, .o l _, e => by cases e; exact ⟨_, rfl, .inr ⟨_, .inl rfl, l⟩⟩
  | _, _, i + 1, _, .o _ h, e => LS.get (i := i) h e
  | _, _, 0, _, .p l _, e => by cases e; exact ⟨_, rfl, .inr ⟨_, .inr rfl, l⟩⟩
  | _, _, i + 1, _, .p _ h, e => LS.get (i := i) h e
end
section
open Classical in
noncomputable def ovl (A : Addr → Prop) (F H : Hp) : Hp := fun b => if A b then H b else F b
variable {K : PySem.W.Frag} {B : Bs} {F H : Hp} {σ : St} {δ δL : Dl} {G : Rg} {A : Addr → Prop}
theorem ovl_in {b : Addr} (h : A b) : ovl A F H b = H b := if_pos h
theorem ovl_out {b : Addr} (h : ¬ A b) : ovl A F H b = F b := if_neg h
theorem same_ovl (s : Same F H) : Same F (ovl A F H) := fun b o e => by
  by_cases q : A b
  · rw [ovl_in q]; exact s _ _ e
  · rw [ovl_out q]; exact e
theorem ovl_sub (s : Same F H) : Same (ovl A F H) H := fun b o e => by
  by_cases q : A b
  · rwa [ovl_in q] at e
  · rw [ovl_out q] at e; exact s _ _ e
def lentA (σ : St) (δ : Dl) (G : Rg) (b : Addr) : Prop := b ∈ G.map (·.1) ∨ Ow σ δ b
theorem RB.lent (r : RB K B F H σ δ) (g : RgOk K B F H σ δ G) (ls : LS G δ δL) : RB K ⟨ovl (lentA σ δ G) F H, H, [], σ⟩ (ovl (lentA σ δ G) F H) H σ δL := by
  have hc : ∀ p ∈ G, ∃ vs, ovl (lentA σ δ G) F H p.1 = some (.lst vs) ∧ RepL K (ovl (lentA σ δ G) F H) vs p.2 := fun p hp => by
    obtain ⟨vs, h1, h2⟩ := g.at_ p hp
    exact ⟨vs, by rw [ovl_in (.inl (List.mem_map_of_mem hp))]; exact h1, h2.mono (same_ovl r.sub)⟩
  refine ⟨ovl_sub r.sub, by rw [← ls.len]; exact r.len, fun i x e => ?_, fun i c e => ?_, fun i c e => ?_, fun i j a h1 => ?_, .refl _, fun b o e _ => e, fun b hb => (nomatch hb), fun b o e _ => .inl ⟨o, e⟩⟩
  · obtain ⟨y, ey, h⟩ := ls.get e
    cases ey
    rcases h with ⟨z, hz, l⟩ | ⟨c, hz, l⟩
    · obtain ⟨v, h1, h2⟩ := r.dat i z hz
      exact ⟨v, h1, l.rep hc (h2.mono (same_ovl r.sub))⟩
    · have : ∃ a, σ[i]? = some (some (.ref a)) ∧ OwnA K F H a c := by
        rcases hz with hz | hz
        · obtain ⟨a, h1, h2, _⟩ := r.own i c hz; exact ⟨a, h1, h2⟩
        · obtain ⟨a, h1, h2, _⟩ := r.par i c hz; exact ⟨a, h1, h2⟩
      obtain ⟨a, h1, h2, ho, h3, h4⟩ := this
      exact ⟨.ref a, h1, l.rep hc (Cn.rep (by rw [ovl_in (.inr ⟨i, ⟨c, hz⟩, h1⟩)]; exact h3) (h4.mono (same_ovl r.sub)))⟩
  · obtain ⟨y, ey, _⟩ := ls.get e
    cases ey
  · obtain ⟨y, ey, _⟩ := ls.get e
    cases ey
  · obtain ⟨c, e | e⟩ := h1
    · obtain ⟨y, ey, _⟩ := ls.get e
      cases ey
    · obtain ⟨y, ey, _⟩ := ls.get e
      cases ey
end
def plD : D → Bool
  | .non | .bl _ | .int _ | .str _ | .vv _ => true
  | _ => false
theorem plD.rep {K : PySem.W.Frag} {F F' : Hp} {v : V} {x : D} (h : plD x = true) (r : Rep K F v x) : Rep K F' v x := by
  unfold plD at h
  split at h
  · cases r; exact .non
  · cases r; exact .bl _
  · cases r; exact .int _
  · cases r; exact .str _
  · cases r; exact .vv _
  · cases h
theorem plD.reps {K : PySem.W.Frag} {F F' : Hp} : ∀ {vs : List V} {xs : List D}, xs.all plD = true → RepL K F vs xs → RepL K F' vs xs
  | _, _, _, .nil => .nil
  | _, _, h, .cons r rs => by
    rw [List.all_cons, Bool.and_eq_true] at h
    exact .cons (plD.rep h.1 r) (plD.reps h.2 rs)
section
variable {Φ : Fam} {W : WX} {e e1 e2 : Expr} {es : List Expr} {pos : Pos}
def wLtT (w : WT) : WTG := fun δ G Q E => ∃ δL, LS G δ δL ∧ w δL (fun b _ => Q b δ G) (fun _ _ _ _ => False)
theorem dtg_lent {w : WT} (h : DT Φ W e w) : DTG Φ W e (wLtT w) := by
  obtain ⟨t, h1, h2⟩ := h
  refine ⟨t, h1, fun B F H σ δ G Q E Qh r g hw p x => ?_⟩
  obtain ⟨δL, ls, hw⟩ := hw
  refine h2 _ _ H σ δL _ _ Qh (r.lent g ls) hw (fun b F3 H3 δ3 r3 s3 q => ?_) (fun F' H' δ' C dd f v x _ _ _ _ h => h.elim)
  obtain ⟨r4, s4⟩ := r.hmono (H' := H3) fun b o e => r3.h0 b o e (fun z => nomatch z)
  exact p b F H3 δ G r4 (g.step s4) q
def wNewG (w : WEG) : WEG := fun δ G Q E => w δ G (fun sd δ' G' => match sd with
  | .o (.l xs) => ∀ a, a ∉ G'.map (·.1) → Q (.d (.vv (.ref a))) δ' ((a, xs) :: G')
  | _ => False) E
theorem deg_new {w : WEG} (h : DEG Φ W e w) : DEG Φ W e (wNewG w) := by
  obtain ⟨t, h1, h2⟩ := h
  refine ⟨t, h1, fun B F H σ δ G Q E Qh r g hw p x => h2 B F H σ δ G _ E Qh r g hw (fun v F1 H1 sd δ1 G1 r1 g1 s1 sr n k q => ?_) x⟩
  split at q
  · rename_i xs
    obtain ⟨a, rfl, ⟨f1, ho, h3, h4⟩, nw, hb, h0⟩ := sr
    obtain ⟨vs, rfl, h5⟩ := h4.lst
    have na := n a _ rfl rfl
    have g2 : RgOk Φ.K B F1 H1 σ δ1 ((a, xs) :: G1) := ⟨List.nodup_cons.mpr ⟨na, g1.nd⟩, fun q hq => ?_, fun q hq => ?_, fun q hq => ?_⟩
    · exact p (.ref a) F1 H1 (.d (.vv (.ref a))) δ1 _ r1 g2 s1 (Rep.vv _) (fun _ _ e => by cases e) k (q a na)
    · rcases List.mem_cons.mp hq with rfl | hq
      · exact ⟨f1, hb⟩
      · exact g1.fr q hq
    · rcases List.mem_cons.mp hq with rfl | hq
      · exact ⟨vs, h3, h5⟩
      · exact g1.at_ q hq
    · rcases List.mem_cons.mp hq with rfl | hq
      · exact nw
      · exact g1.apt q hq
  · exact q.elim
theorem RgOk.chg {K : PySem.W.Frag} {B : Bs} {F H : Hp} {σ : St} {δ : Dl} {G1 G2 : Rg} {a : Addr} {xs ys : List D} {vs : List V} (r : RB K B F H σ δ) (g : RgOk K B F H σ δ (G1 ++ (a, xs) :: G2)) (h : RepL K F vs ys) :
    RB K B F (upd H a (.lst vs)) σ δ ∧ RgOk K B F (upd H a (.lst vs)) σ δ (G1 ++ (a, ys) :: G2) := by
  have hm : a ∈ (G1 ++ (a, xs) :: G2).map (·.1) := by simp
  have hF := g.fnone hm
  have hB := g.bnone hm
  have hO := g.now hm
  have keys : (G1 ++ (a, ys) :: G2).map (·.1) = (G1 ++ (a, xs) :: G2).map (·.1) := by simp
  have oa : ∀ {b c i}, isOwn δ i → σ[i]? = some (some (.ref b)) → OwnA K F H b c → OwnA K F (upd H a (.lst vs)) b c := fun {b c i} hi hs ⟨h1, u, h2, h3⟩ => by
    have : b ≠ a := fun z => hO ⟨i, hi, z ▸ hs⟩
    exact ⟨h1, u, by rw [upd_ne this]; exact h2, h3⟩
  have nd := g.nd
  have other : ∀ p ∈ G1 ++ (a, ys) :: G2, p = (a, ys) ∨ (p ∈ G1 ++ (a, xs) :: G2 ∧ p.1 ≠ a) := fun p hp => by
    rw [List.map_append, List.map_cons, List.nodup_append, List.nodup_cons] at nd
    rcases List.mem_append.mp hp with hp | hp
    · exact .inr ⟨List.mem_append_left _ hp, fun z => nd.2.2 p.1 (List.mem_map_of_mem hp) a (by simp) z⟩
    · rcases List.mem_cons.mp hp with hp | hp
      · exact .inl hp
      · exact .inr ⟨List.mem_append_right _ (List.mem_cons_of_mem _ hp), fun z => by
          have hm := List.mem_map_of_mem (f := fun q : Addr × List D => q.1) hp
          replace hm : p.1 ∈ G2.map (·.1) := hm
          rw [z] at hm
          exact nd.2.1.1 hm⟩
  refine ⟨⟨fun b o e => by rw [upd_ne (ne_of_none e hF)]; exact r.sub _ _ e, r.len, r.dat, fun i c e => let ⟨b, h1, h2, h3⟩ := r.own i c e; ⟨b, h1, oa ⟨c, .inl e⟩ h1 h2, h3⟩, fun i c e => let ⟨b, h1, h2, h3⟩ := r.par i c e; ⟨b, h1, oa ⟨c, .inr e⟩ h1 h2, h3⟩, r.apt, r.f0,
    fun b o e n => by rw [upd_ne (ne_of_none e hB)]; exact r.h0 b o e n, fun b hb => ?_, r.nw⟩, ⟨by rw [keys]; exact g.nd, fun p hp => ?_, fun p hp => ?_, fun p hp => ?_⟩⟩
  · obtain ⟨h1, ⟨o, h2⟩, u, h3⟩ := r.hO b hb
    have : b ≠ a := fun z => by rw [z, hB] at h3; cases h3
    exact ⟨h1, ⟨o, by rw [upd_ne this]; exact h2⟩, u, h3⟩
  · rcases other p hp with rfl | ⟨hp, _⟩
    · exact ⟨hF, hB⟩
    · exact g.fr p hp
  · rcases other p hp with rfl | ⟨hp, ne⟩
    · exact ⟨vs, upd_same, h⟩
    · obtain ⟨us, h1, h2⟩ := g.at_ p hp
      exact ⟨us, by rw [upd_ne ne]; exact h1, h2⟩
  · rcases other p hp with rfl | ⟨hp, _⟩
    · exact hO
    · exact g.apt p hp
theorem RgOk.perm {K : PySem.W.Frag} {B : Bs} {F H : Hp} {σ : St} {δ : Dl} {G G' : Rg} (g : RgOk K B F H σ δ G) (p : G.Perm G') : RgOk K B F H σ δ G' :=
  ⟨(p.map _).nodup_iff.mp g.nd, fun q hq => g.fr q (p.mem_iff.mpr hq), fun q hq => g.at_ q (p.mem_iff.mpr hq), fun q hq => g.apt q (p.mem_iff.mpr hq)⟩
def PostFG (K : PySem.W.Frag) (B : Bs) (σ : St) (F H : Hp) (Q : D → Dl → Rg → Prop) (Qh : VK) : Prop :=
  ∀ v F' H' x δ' G', RB K B F' H' σ δ' → RgOk K B F' H' σ δ' G' → Same F F' → Rep K F' v x → (∀ a o, H a = some o → ∃ o', H' a = some o') → Q x δ' G' → Qh v H'
theorem PostFG.of {K : PySem.W.Frag} {B : Bs} {σ : St} {F H : Hp} {Q : D → Dl → Rg → Prop} {Qh : VK} (p : PostFG K B σ F H Q Qh) : PostG K B σ F H (fun sd δ' G' => Q sd.fz δ' G') Qh := fun v F' H' sd δ' G' r g s sr n k q => by
  cases sd with
  | d x => exact p v F' H' x δ' G' r g s sr k q
  | p c => exact sr.elim
  | o c =>
    obtain ⟨a, rfl, ⟨h1, ho, h2, h3⟩, h4, h5, h6⟩ := sr
    have na := n a c rfl rfl
    have sF : Same F' (upd F' a ho) := fun b o e => by rw [upd_ne (ne_of_none e h1)]; exact e
    refine p (.ref a) (upd F' a ho) H' _ δ' G' (r.freeze h2 h1 h4 h5) ⟨g.nd, fun q hq => ⟨?_, (g.fr q hq).2⟩, fun q hq => ?_, g.apt⟩ (s.trans sF) (Cn.rep upd_same (h3.mono sF)) k q
    · rw [upd_ne fun z : q.1 = a => na (z ▸ List.mem_map_of_mem (f := fun q : Addr × List D => q.1) hq)]
      exact (g.fr q hq).1
    · obtain ⟨us, u1, u2⟩ := g.at_ q hq
      exact ⟨us, u1, u2.mono sF⟩
def wAppG (w1 w2 : WEG) : WEG := fun δ G Q E => w1 δ G (fun sd δ1 G1 => match sd with
  | .d (.vv (.ref a)) => a ∈ G1.map (·.1) ∧ w2 δ1 G1 (fun sd δ2 G2 => ∃ Ga Gb xs G3, G2 = Ga ++ (a, xs) :: Gb ∧ xs.length < sizeLine ∧ (Ga ++ (a, xs ++ [sd.fz]) :: Gb).Perm G3 ∧ Q (.d .non) δ2 G3) E
  | _ => False) E
theorem deg_app {apos cpos : Pos} {w1 w2 : WEG} (h1 : DEG Φ W e1 w1) (h2 : DEG Φ W e2 w2)
    (hbase : ∀ i, attributeBase e1 "append" (Φ.X i).env (eval e1 (Φ.X i).env) = eval e1 (Φ.X i).env := by intro _; rfl)
    (hfew : ∀ i, ((backTo cpos (starEach [e2] (Φ.X i).env)).all (fun x => !x.1) && (backToKw cpos (keywordEach [] (Φ.X i).env)).all (fun x => x.1.isSome)
      && decide ([e2].length + ([] : List Keyword).length + (if ([] : List Keyword).isEmpty then 0 else 1) < 30)) = true := by intro _; rfl)
    (hline : (apos.endLine == cpos.line) = true := by rfl) (hs : ∀ i, starEach [e2] (Φ.X i).env = (false, eval e2 (Φ.X i).env) :: starEach [] (Φ.X i).env := by intro _; rfl) (hplain : ∀ i, (backTo cpos (starEach [] (Φ.X i).env)).any (·.1) = false := by intro _; rfl) :
    DEG Φ W (.Call (.Attribute e1 "append" apos) [e2] [] cpos) (wAppG w1 w2) := by
  obtain ⟨t1, a1, a2⟩ := h1
  obtain ⟨t2, b1, b2⟩ := h2
  refine ⟨tBM Φ.K "list" rAppend t1 (tCons t2 tNil), fun i => by
    have h := pe_bm (X := Φ.X i) (cpos := cpos) (apos := apos) PySem.F.plainAttrs_list PySem.F.slot_list_append PySem.F.type_list_append mt_append (a1 i) (pa_cons (b1 i) pa_nil (hs i)) (hbase i) (hfew i) hline (hs i) (hplain i)
    rw [Φ.hK i] at h; exact h, fun B F H σ δ G Q E Qh r g hw p xl => ?_⟩
  refine a2 B F H σ δ G _ E _ r g hw (fun v F1 H1 sd δ1 G1 r1 g1 s1 sr n k q => ?_) xl
  split at q
  · rename_i a
    cases sr
    obtain ⟨hm, hw2⟩ := q
    obtain ⟨p0, hp0, rfl⟩ := List.mem_map.mp hm
    obtain ⟨vs0, h02, _⟩ := g1.at_ p0 hp0
    refine ⟨.inl ⟨rfl, vs0, .of h02⟩, ?_⟩
    refine b2 B F1 H1 σ δ1 G1 _ E _ r1 g1 hw2 (PostFG.of (Q := fun x δ2 G2 => ∃ Ga Gb xs G3, G2 = Ga ++ (p0.1, xs) :: Gb ∧ xs.length < sizeLine ∧ (Ga ++ (p0.1, xs ++ [x]) :: Gb).Perm G3 ∧ Q (.d .non) δ2 G3) fun u F2 H2 x δ2 G2 r2 g2 s2 rep k2 q2 => ?_) xl
    obtain ⟨Ga, Gb, xs, G3, rfl, hl, pm, q3⟩ := q2
    obtain ⟨vs, h3, h4⟩ := g2.at_ (p0.1, xs) (by simp)
    obtain ⟨r3, g3⟩ := RgOk.chg (vs := vs ++ [u]) r2 g2 (h4.app (.cons rep .nil))
    refine ⟨p0.1, vs, u, rfl, rfl, h3, by rw [h4.len]; exact hl, p .non F2 _ (.d .non) δ2 G3 r3 (g3.perm pm) (s1.trans s2) .non (fun _ _ e => by cases e) (fun b o e => ?_) q3⟩
    obtain ⟨o1, e1⟩ := k b o e
    obtain ⟨o2, e2⟩ := k2 b o1 e1
    by_cases c : b = p0.1
    · subst c; exact ⟨_, upd_same⟩
    · exact ⟨o2, by rw [upd_ne c]; exact e2⟩
  · exact q.elim
abbrev WLG := Dl → Rg → (List D → Dl → Rg → Prop) → XQ → Prop
def DAG (Φ : Fam) (W : WX) (es : List Expr) (w : WLG) : Prop :=
  ∃ t, (∀ i, PA (Φ.X i) es t) ∧ ∀ (B : Bs) (F H : Hp) (σ : St) (δ : Dl) (G : Rg) (Q : List D → Dl → Rg → Prop) (E : XQ) (Qh : List V → Hp → Prop), RB Φ.K B F H σ δ → RgOk Φ.K B F H σ δ G → w δ G Q E →
    (∀ vs F' H' xs δ' G', RB Φ.K B F' H' σ δ' → RgOk Φ.K B F' H' σ δ' G' → Same F F' → RepL Φ.K F' vs xs → (∀ a o, H a = some o → ∃ o', H' a = some o') → Q xs δ' G' → Qh vs H') → XL Φ.K B W σ E → t σ H Qh
def wNilG : WLG := fun δ G Q _ => Q [] δ G
def wConsG (w : WEG) (u : WLG) : WLG := fun δ G Q E => w δ G (fun sd δ1 G1 => u δ1 G1 (fun xs δ2 G2 => Q (sd.fz :: xs) δ2 G2) E) E
theorem dag_nil : DAG Φ W [] wNilG := ⟨_, fun _ => pa_nil, fun B F H σ δ G Q E Qh r g hw p _ => p [] F H [] δ G r g (.refl _) .nil (fun _ o e => ⟨o, e⟩) hw⟩
theorem dag_cons {w : WEG} {u : WLG} (h : DEG Φ W e w) (h' : DAG Φ W es u) (hs : ∀ i, starEach (e :: es) (Φ.X i).env = (false, eval e (Φ.X i).env) :: starEach es (Φ.X i).env := by intro _; rfl) : DAG Φ W (e :: es) (wConsG w u) := by
  obtain ⟨t, h1, h2⟩ := h
  obtain ⟨t', h1', h2'⟩ := h'
  exact ⟨_, fun i => pa_cons (h1 i) (h1' i) (hs i), fun B F H σ δ G Q E Qh r g hw p x => h2 B F H σ δ G _ E _ r g hw (PostFG.of (Q := fun y δ1 G1 => u δ1 G1 (fun xs δ2 G2 => Q (y :: xs) δ2 G2) E) fun v F1 H1 d δ1 G1 r1 g1 s1 rep k1 q =>
    h2' B F1 H1 σ δ1 G1 _ E _ r1 g1 q (fun vs F2 H2 xs δ2 G2 r2 g2 s2 reps k2 q2 => p _ F2 H2 _ δ2 G2 r2 g2 (s1.trans s2) (.cons (rep.mono s2) reps) (fun a o e => let ⟨o1, e1⟩ := k1 a o e; k2 a o1 e1) q2) x) x⟩
def wLstG (w : WLG) : WEG := fun δ G Q E => w δ G (fun xs δ' G' => xs.length ≤ sizeLine ∧ Q (.o (.l xs)) δ' G') E
end
end DL
namespace DL
open PySem PySem.Spec L2
section
variable (G : Rg)
mutual
/-- what is told of while cells are lent: the cells by their places alone -/
inductive UL : D → D → Prop
  | pl {x : D} : plD x = true → UL x x
  | tag {a : Addr} {x : D} : UL (.at a x) (.vv (.ref a))
  | lst {xs ys : List D} : (∀ p ∈ G, ∀ (K : PySem.W.Frag) (F : Hp) (vs : List V), RepL K F vs p.2 → RepL K F vs xs → False) → ULs xs ys → UL (.lst xs) (.lst ys)
  | tup {xs ys : List D} : ULs xs ys → UL (.tup xs) (.tup ys)
  | obj {C : Addr} {fs gs : List (Str × D)} : ULf fs gs → UL (.obj C fs) (.obj C gs)
  | dic {xs ys : List (Key × D)} : ULk xs ys → UL (.dic xs) (.dic ys)
inductive ULs : List D → List D → Prop
  | nil : ULs [] []
  | cons {x y : D} {xs ys : List D} : UL x y → ULs xs ys → ULs (x :: xs) (y :: ys)
inductive ULf : List (Str × D) → List (Str × D) → Prop
  | nil : ULf [] []
  | cons {f : Str} {x y : D} {fs gs : List (Str × D)} : UL x y → ULf fs gs → ULf ((f, x) :: fs) ((f, y) :: gs)
inductive ULk : List (Key × D) → List (Key × D) → Prop
  | nil : ULk [] []
  | cons {k : Key} {x y : D} {xs ys : List (Key × D)} : UL x y → ULk xs ys → ULk ((k, x) :: xs) ((k, y) :: ys)
end
inductive LS0 : Dl → Dl → Prop
  | nil : LS0 [] []
  | hide {s : Option SD} {δ δL : Dl} : LS0 δ δL → LS0 (s :: δ) (none :: δL)
  | d {x y : D} {δ δL : Dl} : LD G x y → LS0 δ δL → LS0 (some (.d x) :: δ) (some (.d y) :: δL)
end
section
variable {K : PySem.W.Frag} {F F' : Hp} {G : Rg}
mutual
theorem UL.rep (hc : ∀ p ∈ G, ∃ vs, F p.1 = some (.lst vs) ∧ RepL K F vs p.2) (hf : ∀ b o, F b = some o → b ∉ G.map (·.1) → F' b = some o) : ∀ {x y : D} {v : V}, UL G x y → Rep K F v x → Rep K F' v y
  | _, _, _, .pl h, r => plD.rep h r
  | _, _, _, .tag, r => by
    cases r
    exact .vv _
  | _, _, _, .lst cl hs, r => by
    cases r with
    | lst h1 h2 =>
      refine .lst (hf _ _ h1 fun hm => ?_) (ULs.rep hc hf hs h2)
      obtain ⟨p, hp, e⟩ := List.mem_map.mp hm
      obtain ⟨us, u1, u2⟩ := hc p hp
      rw [e, h1] at u1
      cases u1
      exact cl p hp K F _ u2 h2
  | _, _, _, .tup hs, r => by
    cases r with
    | tup h1 h2 =>
      refine .tup (hf _ _ h1 fun hm => ?_) (ULs.rep hc hf hs h2)
      obtain ⟨p, hp, e⟩ := List.mem_map.mp hm
      obtain ⟨us, u1, u2⟩ := hc p hp
      rw [e, h1] at u1
      cases u1
  | _, _, _, .obj hs, r => by
    cases r with
    | obj h1 h2 =>
      refine .obj (hf _ _ h1 fun hm => ?_) (ULf.rep hc hf hs h2)
      obtain ⟨p, hp, e⟩ := List.mem_map.mp hm
      obtain ⟨us, u1, u2⟩ := hc p hp
      rw [e, h1] at u1
      cases u1
  | _, _, _, .dic hs, r => by
    cases r with
    | dic h1 h2 =>
      refine .dic (hf _ _ h1 fun hm => ?_) (ULk.rep hc hf hs h2)
      obtain ⟨p, hp, e⟩ := List.mem_map.mp hm
      obtain ⟨us, u1, u2⟩ := hc p hp
      rw [e, h1] at u1
      cases u1
theorem ULs.rep (hc : ∀ p ∈ G, ∃ vs, F p.1 = some (.lst vs) ∧ RepL K F vs p.2) (hf : ∀ b o, F b = some o → b ∉ G.map (·.1) → F' b = some o) : ∀ {xs ys : List D} {vs : List V}, ULs G xs ys → RepL K F vs xs → RepL K F' vs ys
  | _, _, _, .nil, .nil => .nil
  | _, _, _, .cons h hs, .cons r rs => .cons (UL.rep hc hf h r) (ULs.rep hc hf hs rs)
theorem ULf.rep (hc : ∀ p ∈ G, ∃ vs, F p.1 = some (.lst vs) ∧ RepL K F vs p.2) (hf : ∀ b o, F b = some o → b ∉ G.map (·.1) → F' b = some o) : ∀ {fs gs : List (Str × D)} {vs : List (Str × V)}, ULf G fs gs → RepF K F vs fs → RepF K F' vs gs
  | _, _, _, .nil, .nil => .nil
  | _, _, _, .cons h hs, .cons r rs => .cons (UL.rep hc hf h r) (ULf.rep hc hf hs rs)
theorem ULk.rep (hc : ∀ p ∈ G, ∃ vs, F p.1 = some (.lst vs) ∧ RepL K F vs p.2) (hf : ∀ b o, F b = some o → b ∉ G.map (·.1) → F' b = some o) : ∀ {xs ys : List (Key × D)} {vs : List (Key × V)}, ULk G xs ys → RepK K F vs xs → RepK K F' vs ys
  | _, _, _, .nil, .nil => .nil
  | _, _, _, .cons h hs, .cons r rs => .cons (UL.rep hc hf h r) (ULk.rep hc hf hs rs)
end
theorem LS0.get : ∀ {δ δL : Dl} {i : Nat} {sd : SD}, LS0 G δ δL → δL[i]? = some (some sd) → ∃ y x, sd = .d y ∧ δ[i]? = some (some (.d x)) ∧ LD G x y
  | _, _, _, _, .nil, e => by simp at e
  | _, _, 0, _, .hide _, e => by cases e
  | _, _, i + 1, _, .hide h, e => LS0.get (i := i) h e
  | _, _, 0, _, .d l _, e => by cases e; exact ⟨_, _, rfl, rfl, l⟩
  | _, _, i + 1, _, .d _ h, e => LS0.get (i := i) h e
end
section
variable {K : PySem.W.Frag} {B : Bs} {F H : Hp} {σ : St} {δ δL : Dl} {G : Rg}
end
section
variable {Φ : Fam} {W : WX} {e : Expr} {es : List Expr} {body : List Stmt} {pos : Pos}
end
end DL
namespace DL
open PySem PySem.Spec L2
abbrev DSpG := Dl → (SD → Dl → Rg → Prop) → XQ → Prop
def finDG (α : Dl) (Q : SD → Dl → Rg → Prop) : SD → Dl → Rg → Prop := fun sd δ G => match backD α δ with
  | some α' => Q sd α' G
  | none => False
theorem RgOk.finish {K : PySem.W.Frag} {F H F' H' : Hp} {O : List Addr} {vs : List V} {σ : St} {δ α α' : Dl} {G : Rg} (no : ∀ (i : Nat) (c : Cn), α[i]? ≠ some (some (.o c))) (r1 : RB K ⟨F, H, O, vs.map some⟩ F' H' (vs.map some) α')
    (g : RgOk K ⟨F, H, O, vs.map some⟩ F' H' σ δ G) (h : backD α δ = some α') : RgOk K ⟨F, H, O, vs.map some⟩ F' H' (vs.map some) α' G := by
  refine ⟨g.nd, g.fr, g.at_, fun p hp ⟨i, ⟨c, e⟩, hs⟩ => ?_⟩
  rcases e with e | e
  · rcases backD_get h e with ⟨c', e1, e2, _⟩ | ⟨_, e1⟩
    · cases e1
    · exact no i c e1
  · obtain ⟨a, h1, _, h3, _⟩ := r1.par i c e
    rw [hs] at h1
    cases h1
    obtain ⟨_, _, o, h4⟩ := r1.hO _ h3
    rw [(g.fr p hp).2] at h4; cases h4
section
variable {Φ : Fam} {W : WX} {k j : Nat} {x : Str} {ps : List Str} {ds : DSpG} {e : Expr} {es : List Expr} {p pos : Pos}
def wFnG (ds : DSpG) (w : WL) : WEG := fun δ G Q E => w δ (fun xs δ1 => ds (argsD xs) (fun sd _ G2 => (∀ a ∈ G2.map (·.1), a ∉ G.map (·.1)) → Q sd δ1 (G2 ++ G)) (fun C f y _ => E C f y δ1)) E
end
end DL
namespace DL
open PySem PySem.Spec L2
@[irreducible] def kontG (u : WSG) (M : WEndsG) (E : XQ) (δ : Dl) (G : Rg) : Prop := u M E δ G
theorem kontG_intro {u : WSG} {M : WEndsG} {E : XQ} {δ : Dl} {G : Rg} (h : u M E δ G) : kontG u M E δ G := by unfold kontG; exact h
theorem wSeqG_k (w u : WSG) (M : WEndsG) (E : XQ) (δ : Dl) (G : Rg) : wSeqG w u M E δ G = w { nx := kontG u M E, rt := M.rt, bk := M.bk, ct := M.ct } E δ G := by unfold kontG; rfl
def zipG (bs : List Addr) (rows : List (List D)) : Rg := bs.zip rows
abbrev vvs (bs : List Addr) : List D := bs.map fun b => .vv (.ref b)
theorem LDs.zip {G : Rg} : ∀ {bs : List Addr} {rows : List (List D)}, bs.length = rows.length → (∀ p ∈ zipG bs rows, p ∈ G) → LDs G (vvs bs) (rows.map D.lst)
  | [], [], _, _ => .nil
  | b :: bs, r :: rows, h, hm => .cons (.cell (hm (b, r) (by simp [zipG])) (LDs_refl r)) (LDs.zip (by simpa using h) fun p hp => hm p (by simp only [zipG, List.zip_cons_cons, List.mem_cons]; exact .inr hp))
  | [], _ :: _, h, _ => by cases h
  | _ :: _, [], h, _ => by cases h
where
  LDs_refl : ∀ xs : List D, LDs G xs xs
    | [] => .nil
    | x :: xs => .cons (.same x) (LDs_refl xs)
theorem LDs.refl {G : Rg} : ∀ xs : List D, LDs G xs xs
  | [] => .nil
  | x :: xs => .cons (.same x) (LDs.refl xs)
theorem LS.refl {G : Rg} : ∀ δ : Dl, LS G δ (δ.map fun s => match s with
  | some sd => some (.d sd.fz)
  | none => none)
  | [] => .nil
  | none :: δ => .hide (LS.refl δ)
  | some (.d x) :: δ => .d (.same x) (LS.refl δ)
  | some (.o c) :: δ => .o (.same _) (LS.refl δ)
  | some (.p c) :: δ => .p (.same _) (LS.refl δ)
end DL
namespace DL
open PySem PySem.Spec L2
section
variable {Φ : Fam} {W : WX} {body : List Stmt} {hd0 : ExceptHandler} {hds : List ExceptHandler} {l : List ClD} {pos : Pos} {wb : WSG}
def wTryG (K : PySem.W.Frag) (wb : WSG) (l : List ClD) : WSG := fun M E δ G => wb M (wClsD K (M.at_ []) E l) δ G
end
end DL
namespace L2
open PySem PyProof.Rows PySem.Spec
structure LkT (H : Hp) (s : Shared) (d : Addr) (kvs : List (List Key × V)) (es : Array DictEntry) (ep : Nat) : Prop where
  raw : DT.Raw s.heap d es ep
  own : (d == sysModules) = false
  many : es.size = kvs.length
  ent : ∀ (i : Nat) (p : List Key × V), kvs[i]? = some p → ∃ (h : i < es.size) (q : Addr), es[i].key = .ref q ∧ H q = some (.tup (p.1.map kV)) ∧ RelV p.2 es[i].val
def Itit (d : Addr) (o : Obj) (kvs : List (List Key × V)) : It where
  go i H := H d = some (.frz o (.dT kvs)) ∧ i < kvs.length
  yld i H x H' := ∃ T p q, kvs[i]? = some p ∧ x = .ref T ∧ H T = none ∧ H q = some (.tup (p.1.map kV)) ∧ H' = upd H T (.tup [.ref q, p.2])
  stop i H := H d = some (.frz o (.dT kvs)) ∧ kvs.length ≤ i
section
variable {P : Program} {w : World} {A : Around} {s : Shared} {H : Hp} {it d : Addr} {kvs : List (List Key × V)} {es : Array DictEntry} {ep : Nat}
end
def iItemsT (td : TE) : TI := fun σ H R => td σ H fun x H1 => ∃ d o kvs, x = .ref d ∧ H1 d = some (.frz o (.dT kvs)) ∧ R (Itit d o kvs) H1
end L2
namespace L2
open PySem PyProof.Rows PySem.Spec
section
variable {X : Cx} {kx vx tg iter : Expr} {ifs : List Expr} {scope : Scope} {own : List (Str × Nat)} {pos : Pos} {wi : TI} {g : TG} {tt : TT} {tk tv : TE} {o0 : HO}
structure Dcs (X : Cx) (tg : Expr) (kx vx : Expr) (ifs : List Expr) (scope : Scope) (g : TG) (tt : TT) (tk tv : TE) : Prop where
  g : ∀ (s : Shared) (H : Hp) (C : Addr) (cl : List (Str × Addr)) (fp : List Addr), PG (X.blk s H scope (compEnvC scope cl C X.env) fp) tg g
  t : ∀ (s : Shared) (H : Hp) (C : Addr) (cl : List (Str × Addr)) (fp : List Addr), PTs (X.blk s H scope (compEnvC scope cl C X.env) fp) ifs tt
  k : ∀ (s : Shared) (H : Hp) (C : Addr) (cl : List (Str × Addr)) (fp : List Addr), PE (X.blk s H scope (compEnvC scope cl C X.env) fp) kx tk
  v : ∀ (s : Shared) (H : Hp) (C : Addr) (cl : List (Str × Addr)) (fp : List Addr), PE (X.blk s H scope (compEnvC scope cl C X.env) fp) vx tv
end
end L2
namespace L2
open PySem PyProof.Rows PySem.Spec
section
variable {X : Cx} {kx vx tg iter : Expr} {ifs : List Expr} {scope : Scope} {own : List (Str × Nat)} {pos : Pos} {wi : TI} {g : TG} {tt : TT} {tk tv : TE} {o0 : HO}
end
end L2
namespace DL
open PySem PySem.Spec L2
def wiGiv (xs : List D) : WI := fun δ Q _ => Q xs δ
section
variable {Φ : Fam} {W : WX} {kx vx elt tg iter : Expr} {ifs : List Expr} {scope : Scope} {own : List (Str × Nat)} {pos : Pos}
end
end DL
namespace DL
open PySem PySem.Spec L2
mutual
/-- no dict in it: t the kind that is barred (true: of tuple keys) -/
def noD (t : Bool) : D → Bool
  | .lst xs => noDs t xs
  | .tup xs => noDs t xs
  | .dic kvs => t && noDK t kvs
  | .dct kvs => !t && noDT t kvs
  | .obj _ _ => false
  | .exc _ _ _ _ _ => false
  | .err _ _ _ => false
  | .at _ x => noD t x
  | _ => true
def noDs (t : Bool) : List D → Bool
  | [] => true
  | x :: xs => noD t x && noDs t xs
def noDK (t : Bool) : List (Key × D) → Bool
  | [] => true
  | (_, x) :: xs => noD t x && noDK t xs
def noDT (t : Bool) : List (List Key × D) → Bool
  | [] => true
  | (_, x) :: xs => noD t x && noDT t xs
end
def isDk (t : Bool) : HO → Prop
  | .dK _ => t = false
  | .dT _ => t = true
  | _ => False
section
variable {K : PySem.W.Frag} {F : Hp} {a : Addr} {u o : HO} {t : Bool}
theorem nea (hu : isDk t u) (h : F a = some u) {b : Addr} {w : HO} (e : F b = some w) (nw : ¬ isDk t w) : upd F a o b = some w := by
  have : b ≠ a := fun z => by
    rw [z, h] at e
    cases e
    exact nw hu
  rw [upd_ne this]
  exact e
def isLk : HO → Prop
  | .frz _ (.dK _) => True
  | .frz _ (.dT _) => True
  | _ => False
def backF (F0 F : Hp) (a : Addr) : Hp := fun b => if b = a then F0 a else F b
variable {F0 : Hp}
theorem backF_ne {b : Addr} (h : b ≠ a) : backF F0 F a b = F b := if_neg h
theorem neb (hu : isLk u) (h : F a = some u) {b : Addr} {w : HO} (e : F b = some w) (nw : ¬ isLk w) : backF F0 F a b = some w := by
  have : b ≠ a := fun z => by
    rw [z, h] at e
    cases e
    exact nw hu
  rw [backF_ne this]
  exact e
mutual
theorem Rep.back (hu : isLk u) (h : F a = some u) : ∀ {v : V} {x : D}, Rep K F v x → Rep K (backF F0 F a) v x
  | _, _, .non => .non
  | _, _, .bl b => .bl b
  | _, _, .int i => .int i
  | _, _, .str x => .str x
  | _, _, .lst e r => .lst (neb hu h e (fun z => z)) (RepL.back hu h r)
  | _, _, .tup e r => .tup (neb hu h e (fun z => z)) (RepL.back hu h r)
  | _, _, .scr ns e => .scr ns (by
    rcases e with (e | ⟨o2, e⟩) | e
    · exact .inl (.inl (neb hu h e (fun z => z)))
    · exact .inl (.inr ⟨o2, neb hu h e (fun z => z)⟩)
    · exact .inr e)
  | _, _, .dic e r => .dic (neb hu h e (fun z => z)) (RepK.back hu h r)
  | _, _, .dct e r => .dct (neb hu h e (fun z => z)) (RepT.back hu h r)
  | _, _, .obj e r => .obj (neb hu h e (fun z => z)) (RepF.back hu h r)
  | _, _, .vv v => .vv v
  | _, _, .exc e r => .exc (neb hu h e (fun z => z)) (Rep.back hu h r)
  | _, _, .err e e2 r => .err (neb hu h e (fun z => z)) (neb hu h e2 (fun z => z)) (Rep.back hu h r)
  | _, _, .at r => .at (Rep.back hu h r)
theorem RepL.back (hu : isLk u) (h : F a = some u) : ∀ {vs : List V} {xs : List D}, RepL K F vs xs → RepL K (backF F0 F a) vs xs
  | _, _, .nil => .nil
  | _, _, .cons r rs => .cons (Rep.back hu h r) (RepL.back hu h rs)
theorem RepK.back (hu : isLk u) (h : F a = some u) : ∀ {vs : List (Key × V)} {xs : List (Key × D)}, RepK K F vs xs → RepK K (backF F0 F a) vs xs
  | _, _, .nil => .nil
  | _, _, .cons r rs => .cons (Rep.back hu h r) (RepK.back hu h rs)
theorem RepT.back (hu : isLk u) (h : F a = some u) : ∀ {vs : List (List Key × V)} {xs : List (List Key × D)}, RepT K F vs xs → RepT K (backF F0 F a) vs xs
  | _, _, .nil => .nil
  | _, _, .cons r rs => .cons (Rep.back hu h r) (RepT.back hu h rs)
theorem RepF.back (hu : isLk u) (h : F a = some u) : ∀ {vs : List (Str × V)} {xs : List (Str × D)}, RepF K F vs xs → RepF K (backF F0 F a) vs xs
  | _, _, .nil => .nil
  | _, _, .cons r rs => .cons (Rep.back hu h r) (RepF.back hu h rs)
end
theorem CnR.back (hu : isLk u) (h : F a = some u) {ho : HO} {c : Cn} (r : CnR K F ho c) : CnR K (backF F0 F a) ho c := by
  cases c <;> cases ho <;> first | exact r.elim | exact RepL.back hu h r | exact RepK.back hu h r | exact RepT.back hu h r | exact ⟨r.1, RepF.back hu h r.2⟩
end
section
variable {K : PySem.W.Frag} {F : Hp} {a : Addr} {od : Obj}
abbrev keyD2 (ks : List Key) : D := .tup (ks.map dKey)
abbrev pairK (p : Key × D) : D := .tup [dKey p.1, p.2]
abbrev pairT (p : List Key × D) : D := .tup [keyD2 p.1, p.2]
end
end DL
namespace DL
open PySem PySem.Spec L2
inductive LkD (t : Bool) : Dl → Dl → Prop
  | nil : LkD t [] []
  | hide {s : Option SD} {δ δL : Dl} : LkD t δ δL → LkD t (s :: δ) (none :: δL)
  | keep {x : D} {δ δL : Dl} : noD t x = true → LkD t δ δL → LkD t (some (.d x) :: δ) (some (.d x) :: δL)
section
variable {t : Bool} {δ δL : Dl}
theorem LkD.len (h : LkD t δ δL) : δ.length = δL.length := by
  induction h with
  | nil => rfl
  | hide _ ih => exact congrArg (· + 1) ih
  | keep _ _ ih => exact congrArg (· + 1) ih
theorem LkD.get {i : Nat} {sd : SD} (h : LkD t δ δL) (e : δL[i]? = some (some sd)) : ∃ x, sd = .d x ∧ δ[i]? = some (some (.d x)) ∧ noD t x = true := by
  induction h generalizing i with
  | nil => simp at e
  | hide _ ih =>
    cases i with
    | zero => cases e
    | succ i => exact ih (i := i) e
  | keep n _ ih =>
    cases i with
    | zero => cases e; exact ⟨_, rfl, rfl, n⟩
    | succ i => exact ih (i := i) e
end
section
variable {K : PySem.W.Frag} {B : Bs} {F H F2 H2 : Hp} {σ : St} {δ δL δ2 : Dl} {a : Addr} {u fz : HO} {t : Bool}
theorem isDk.nkt (h : isDk t u) : ¬ IsKT u := fun ⟨ks, e⟩ => by subst e; exact h
end
inductive DWk where
  | itK | itT | kyK | kyT
def DWk.t : DWk → Bool
  | .itK | .kyK => false
  | .itT | .kyT => true
def DWk.ti : DWk → TE → TI
  | .itK => iItems
  | .itT => iItemsT
  | .kyK | .kyT => iKeys
def DWk.xs : DWk → D → Option (List D)
  | .itK, .dic kvs => if noDK false kvs = true then some (kvs.map pairK) else none
  | .itT, .dct kvs => if noDT true kvs = true then some (kvs.map pairT) else none
  | .kyK, .dic kvs => if noDK false kvs = true then some (kvs.map fun p => dKey p.1) else none
  | .kyT, .dct kvs => if noDT true kvs = true then some (kvs.map fun p => keyD2 p.1) else none
  | _, _ => none
section
variable {K : PySem.W.Frag} {B : Bs} {F H : Hp} {σ : St} {δ : Dl} {n : Nat}
end
end DL
namespace DL
open PySem PySem.Spec L2
section
variable {Φ : Fam} {W : WX} {kx vx elt tg iter : Expr} {ifs : List Expr} {scope : Scope} {pos : Pos}
variable {py spos : Pos} {y : Str}
variable {elts : List Expr} {kk : Nat} {tpos p apos cpos : Pos}
end
end DL
namespace DL
open PySem PySem.Spec L2
section
variable {K : PySem.W.Frag} {F : Hp}
theorem RepT.valD {k : List Key} {d : D} : ∀ {vs : List (List Key × V)} {ds : List (List Key × D)}, RepT K F vs ds → valT ds k = some d → ∃ v, valV vs k = some v ∧ Rep K F v d
  | _, _, .nil, e => by cases e
  | _, _, .cons (k := k') h r, e => by
    unfold valT at e
    unfold valV
    rw [List.find?_cons] at e ⊢
    by_cases q : k' = k
    · simp only [q, decide_true, Option.map_some, Option.some.injEq] at e ⊢
      subst e
      exact ⟨_, rfl, h⟩
    · simp only [q, decide_false] at e ⊢
      exact RepT.valD r e
def zipD (xs ys : List D) : List D := (xs.zip ys).map fun p => D.tup [p.1, p.2]
end
section
variable {Φ : Fam} {W : WX} {o i e e1 e2 val : Expr} {pos pos' apos cpos p p2 : Pos} {x : Str}
def wiZip (w : WL) : WI := fun δ Q E => w δ (fun zs δ' => match zs with
  | [.lst xs, .lst ys] => Q (zipD xs ys) δ'
  | _ => False) E
def wIxT (wo wi : WO) : WE := fun δ Q E => wo δ (fun o1 δ1 => wi δ1 (fun o2 δ2 => match view δ2 o1, (view δ2 o2).bind keyT with
  | some (.dct kvs), some k => ∃ d, valT kvs k = some d ∧ Q (.d d) δ2
  | _, _ => False) E) E
def wGet2T (wo wi : WO) (wx : WF) : WE := fun δ Q E => wo δ (fun o1 δ1 => (match view δ1 o1 with
  | some (.dct _) => True
  | _ => False) ∧ wi δ1 (fun o2 δ2 => wx δ2 (fun x δ3 => match view δ3 o1, (view δ3 o2).bind keyT with
  | some (.dct kvs), some k => Q (.d ((valT kvs k).getD x)) δ3
  | _, _ => False) E) E) E
def sLenT : S1 := fun x Q => match x with
  | .dct kvs => Q (.d (.int kvs.length))
  | _ => False
def wPop (n : Nat) : WE := fun δ Q E => match ownOf δ n with
  | some (.l xs) => ∃ y, xs.getLast? = some y ∧ Q (.d y) (keepKind δ n (.l xs.dropLast))
  | _ => False
theorem RepL.dropLast {K : PySem.W.Frag} {F : Hp} {vs : List V} {ds : List D} (h : RepL K F vs ds) : RepL K F vs.dropLast ds.dropLast := by
  rw [List.dropLast_eq_take, List.dropLast_eq_take, h.len]
  exact h.take _
def wAugT (n : Nat) (f : Int → Int → Int) (wi wv : WF) : WS := fun M E δ => (∃ c, ownOf δ n = some c) ∧ wi δ (fun y δ1 => match ownOf δ1 n, keyT y with
  | some (.t kvs), some k => ∃ i, valT kvs k = some (.int i) ∧ wv δ1 (fun x δ2 => δ2 = δ1 ∧ ∃ j, x = .int j ∧ kvs.length < sizeLine ∧ M.nx (keepKind δ1 n (.t (putT kvs k (.int (f i j)))))) E
  | _, _ => False) E
end
end DL
namespace DL
open PySem PySem.Spec L2
section
variable {K : PySem.W.Frag} {B : Bs} {F H : Hp} {σ : St} {δ : Dl}
theorem RepT.keys {K : PySem.W.Frag} {F : Hp} : ∀ {vs : List (List Key × V)} {ds : List (List Key × D)}, RepT K F vs ds → vs.map (fun p => keyD2 p.1) = ds.map fun p => keyD2 p.1
  | _, _, .nil => rfl
  | _, _, .cons h r => by rw [List.map_cons, List.map_cons, RepT.keys r]
end
section
variable {Φ : Fam} {W : WX}
def sListT : S1 := fun x Q => match x with
  | .dct kvs => Q (.o (.l (kvs.map fun p => keyD2 p.1)))
  | _ => False
end
section
variable {Φ : Fam} {W : WX} {elts : List Expr} {kk : Nat} {tpos p pos apos cpos : Pos} {y : Str} {body : List Stmt}
end
end DL
namespace L2
open PySem PySem.Spec PyProof.Rows
section
variable {X : Cx} {e : Expr} {es : List Expr} {te : TE} {t : TA} {p : Pos}
end
end L2
namespace DL
open PySem PySem.Spec L2
section
variable {Φ : Fam} {W : WX} {e : Expr} {es : List Expr} {p : Pos}
def wStar (w : WF) (u : WL) : WL := fun δ Q E => w δ (fun x δ' => match x with
  | .tup ys => u δ' (fun xs δ2 => Q (ys ++ xs) δ2) E
  | _ => False) E
end
end DL
namespace DL
open PySem L2
def permU (π : List Nat) (ws : List Value) : List Value := π.map fun i => ws.getD i .none
def permD (π : List Nat) (xs : List D) : List D := π.map fun i => xs.getD i .non
structure KwB (K : PySem.W.Frag) (fd : FuncData) (ps : List Str) (n : Nat) (ks : List Str) (π : List Nat) : Prop where
  to : ∀ (s : Shared) (us ws : List Value), K.In s.heap → us.length = n → ws.length = ks.length → BindsTo s fd ⟨us, ks.zip ws⟩ (ps.zip (us ++ permU π ws))
section
variable {X : Cx} {CX : CXT} {k n : Nat} {f C : Addr} {fd : FuncData} {ps ks : List Str} {π : List Nat} {sp : Sp} {E : St → XK} {x m : Str} {p pos apos : Pos} {o : Expr} {kws : List Keyword} {ta : TE} {tk : TA}
end
section
variable {Φ : Fam} {W : WX}
def DK (Φ : Fam) (W : WX) (kws : List Keyword) (w : WL) : Prop :=
  ∃ t, (∀ i, PK (Φ.X i) kws t) ∧ ∀ (B : Bs) (F H : Hp) (σ : St) (δ : Dl) (Q : List D → Dl → Prop) (E : XQ) (Qh : List V → Hp → Prop), RB Φ.K B F H σ δ → w δ Q E →
    (∀ vs F' H' xs δ', RB Φ.K B F' H' σ δ' → Stp σ δ δ' F H F' H' → RepL Φ.K F' vs xs → Q xs δ' → Qh vs H') → XL Φ.K B W σ E → t σ H Qh
theorem dk_nil : DK Φ W [] wNil := ⟨_, fun _ => pk_nil, fun B F H σ δ Q E Qh r hw p _ => p [] F H [] δ r .refl .nil hw⟩
theorem dk_cons {nm : Option Str} {e : Expr} {kpos : Pos} {kws : List Keyword} {w : WF} {u : WL} (h : DF Φ W e w) (h' : DK Φ W kws u) : DK Φ W (⟨nm, e, kpos⟩ :: kws) (wCons w u) := by
  obtain ⟨t, h1, h2⟩ := h
  obtain ⟨t', h1', h2'⟩ := h'
  exact ⟨_, fun i => pk_cons (h1 i) (h1' i), fun B F H σ δ Q E Qh r hw p x => h2 B F H σ δ _ E _ r hw (fun v F1 H1 d δ1 r1 s1 rep q => h2' B F1 H1 σ δ1 _ E _ r1 q (fun vs F2 H2 xs δ2 r2 s2 reps q2 => p _ F2 H2 _ δ2 r2 (s1.trans s2) (.cons (rep.mono s2.f) reps) q2) x) x⟩
def wPerm (π : List Nat) (m : Nat) (w : WL) : WL := fun δ Q E => w δ (fun xs δ' => xs.length = m ∧ Q (permD π xs) δ') E
variable {k j : Nat} {o : Expr} {kws : List Keyword} {pos p apos : Pos} {x m : Str} {C : Addr} {ps ks : List Str} {π : List Nat} {ds : DSp}
end
end DL
namespace DL
open PySem L2
open EX (ETxt EMade EBinds e_madeA)
section
variable {X : Cx} {nm qi f : Str} {C fI : Addr}
theorem errO_ok {P : Program} {w : World} {H : Hp} {h : Heap} {a d : Addr} (e : errO a C d h) : ObjOk P w H h a (.ext (errO a C d)) := by
  obtain ⟨t, e⟩ := e
  exact ⟨⟨t, e⟩, ⟨_, e⟩, fun _ _ ⟨u, q⟩ k => ⟨u, k _ q⟩⟩
theorem made_core {pins : List (Addr × Obj)} {σ : St} {H : Hp} {s : Shared} {Q : VK} {k : Nat} {us : List Value} {kw : List (Str × Value)} {v : V} {u : Value} (T : ETxt X.prog X.K X.mg nm qi f C fI) (hr : Room k X.A) (few : us.length ≤ sizeLine) (bd : EBinds X.K fI f us kw u) (rv : RelV v u)
    (I : Inv X pins σ H s) (q : ∀ a d, H a = none → H d = none → a ≠ d → Q (.ref a) (upd (upd H d (.xd [(f, v)])) a (.ext (errO a C d)))) :
    wpAny (model X.prog X.w) X.A (call (.ref C) us kw) (EP X pins σ Q) X.xe s := by
  have hlim := I.nolimit
  obtain ⟨mb, hb1, hb2⟩ := I.mod.blt
  have hg' := I.mod.glob.keeps I.bk
  have hb' := hb1.keeps I.bk
  have hsup : mb "super" = some (.type "super") := (hb2 _ (by decide)).trans (by decide +kernel)
  obtain ⟨hp, g, dr, tk, os⟩ := s
  refine wpAny_call (e_madeA T few bd I.kIn hlim hg' hb' hsup (by have := hr.dp; omega) fun h' tk' e d M => ?_)
  have hns := M.ns
  have hex : (PySem.W.hideAll h' [e]).get? e = none := PySem.W.hideAll_none _ List.mem_cons_self
  have hgo : ∀ b o, b ≠ e → h'.get? b = some o → (PySem.W.hideAll h' [e]).get? b = some o := fun b o n q => PySem.W.hideAll_get _ q (by simpa using n)
  have hbk : ∀ b o, (PySem.W.hideAll h' [e]).get? b = some o → h'.get? b = some o := fun b o q => PySem.W.of_hideAll _ q
  have old : ∀ b o, hp.get? b = some o → (PySem.W.hideAll h' [e]).get? b = some o := fun b o q => hgo b o (Nat.ne_of_lt (Nat.lt_of_lt_of_le (Heap.lt_size q) M.new)) (M.keep b o q)
  have ob : ObjOk X.prog X.w (upd H d (.xd [(f, v)])) (PySem.W.hideAll h' [e]) d (.xd [(f, v)]) := ⟨_, hns.at (fun o q => hgo d o M.dne q), fun y => rel_one rv y⟩
  have J : Inv X pins σ (upd H d (.xd [(f, v)])) ⟨PySem.W.hideAll h' [e], g, dr, tk', os⟩ := I.laid (t' := tk') old M.dbig ob
  have he : H e = none := I.hok.fresh M.new
  have hn : upd H d (.xd [(f, v)]) e = none := by
    rw [upd_ne (Ne.symm M.dne)]
    exact he
  exact ⟨.ref e, _, J.laidN (t' := tk') hbk hex hn (errO_ok M.obj), rfl, q e d he (I.hok.fresh M.dbig) (Ne.symm M.dne)⟩
def tMkV (C : Addr) (f : Str) (ta : TA) : TE := fun σ H Q => ta σ H fun vs H1 => ∃ v, vs = [v] ∧ ∀ a d, H1 a = none → H1 d = none → a ≠ d → Q (.ref a) (upd (upd H1 d (.xd [(f, v)])) a (.ext (errO a C d)))
theorem pe_mkv {a : Expr} {ta : TA} {p pos : Pos} {k : Nat} (T : ETxt X.prog X.K X.mg nm qi f C fI) (hr : Room k X.A) (ha : PA X [a] ta) (hg : Gl X nm) (hdb : (nm == ("__debug__" : Str)) = false)
    (he : starEach (a :: []) X.env = (false, eval a X.env) :: starEach [] X.env) (hpl : (backTo pos (starEach [] X.env)).any (·.1) = false) : PE X (.Call (.Name nm p) [a] [] pos) (tMkV C f ta) := ⟨fun pins s σ H Q I h => by
  refine wpAny_Call_Name_kw (ld_glob I hg T.gC ?_ hdb)
  refine PySem.W.callWith_K (h₀ := X.base) I.ok.mod.kin T.kC (thn (ha.run pos pins s σ H _ I h) fun us s1 hh => ?_) he hpl
  obtain ⟨vs, H1, I1, r1, v, ev, q1⟩ := hh
  subst ev
  refine ⟨I1.kIn, ?_⟩
  cases r1 with
  | cons rv rn =>
    cases rn
    exact made_core T hr (EX.one_size _) (EX.ebinds_pos T) rv I1 q1⟩
theorem pe_mkvK {kws : List Keyword} {tk : TA} {p pos : Pos} {k : Nat} (T : ETxt X.prog X.K X.mg nm qi f C fI) (bd : ∀ u, EBinds X.K fI f [] [(f, u)] u) (hr : Room k X.A) (hkw : PK X kws tk) (hg : Gl X nm) (hdb : (nm == ("__debug__" : Str)) = false)
    (hall : (backToKw pos (keywordEach kws X.env)).all (·.1.isSome) = true) (hks : (backToKw pos (keywordEach kws X.env)).filterMap (·.1) = [f])
    (hpl : ((backTo pos (starEach [] X.env)).any (·.1) || (backToKw pos (keywordEach kws X.env)).any (·.1.isNone)) = false) : PE X (.Call (.Name nm p) [] kws pos) (tMkV C f tk) := ⟨fun pins s σ H Q I h => by
  refine wpAny_Call_Name_kw (ld_glob I hg T.gC (PySem.W.callWith_KW0 (h₀ := X.base) I.ok.mod.kin T.kC hall (thn (hkw.run pos pins s σ H _ I h) fun us s1 hh => ?_) hpl) hdb)
  obtain ⟨vs, H1, I1, r1, v, ev, q1⟩ := hh
  subst ev
  refine ⟨I1.kIn, ?_⟩
  rw [hks]
  cases r1 with
  | cons rv rn =>
    cases rn
    exact made_core T hr (by rw [sizeLine_eq]; exact Nat.zero_le _) (bd _) rv I1 q1⟩
def tMkV0 (C : Addr) (f : Str) : TE := fun _ H Q => ∀ a d, H a = none → H d = none → a ≠ d → Q (.ref a) (upd (upd H d (.xd [(f, .non)])) a (.ext (errO a C d)))
theorem pe_mkv0 {p pos : Pos} {k : Nat} (T : ETxt X.prog X.K X.mg nm qi f C fI) (bd : EBinds X.K fI f [] [] .none) (hr : Room k X.A) (hg : Gl X nm) (hdb : (nm == ("__debug__" : Str)) = false) : PE X (.Call (.Name nm p) [] [] pos) (tMkV0 C f) := ⟨fun pins s σ H Q I h => by
  refine wpAny_Call_Name_kw (ld_glob I hg T.gC (PySem.W.callWith_K0 I.kIn T.kC ?_) hdb)
  exact made_core (v := .non) T hr (by rw [sizeLine_eq]; exact Nat.zero_le _) bd rfl I h⟩
end
section
variable {Φ : Fam} {W : WX} {nm qi f : Str} {C fI : Addr} {k : Nat} {a : Expr} {p pos : Pos}
theorem RB.layFz {K : PySem.W.Frag} {B : Bs} {F H : Hp} {σ : St} {δ : Dl} {p : Addr} {ho : HO} (r : RB K B F H σ δ) (hp : H p = none) :
    RB K B (upd F p ho) (upd H p ho) σ δ ∧ Stp σ δ δ F H (upd F p ho) (upd H p ho) := by
  have k : Same F (upd F p ho) := fun b o e => by rw [upd_ne (ne_of_none e (r.fnone hp))]; exact e
  refine ⟨(r.lay hp).freeze upd_same (r.fnone hp) (r.now hp) (r.hnone hp), ⟨k, (Stp.lay (F := F) hp).h, fun b o e nk => ?_, fun _ z => z, (Stp.lay (F := F) (σ := σ) (δ := δ) hp).k⟩⟩
  by_cases hb : b = p
  · subst hb; exact .inr (.inl hp)
  · rw [upd_ne hb] at e; exact .inl ⟨o, e⟩
theorem RB.layErr {K : PySem.W.Frag} {B : Bs} {F H : Hp} {σ : St} {δ : Dl} {e d : Addr} {v : V} {x : D} (r : RB K B F H σ δ) (he : H e = none) (hd : H d = none) (ne : e ≠ d) (h : Rep K F v x) :
    ∃ F', RB K B F' (upd (upd H d (.xd [(f, v)])) e (.ext (errO e C d))) σ δ ∧ Stp σ δ δ F H F' (upd (upd H d (.xd [(f, v)])) e (.ext (errO e C d))) ∧ Rep K F' (.ref e) (.err C f x) := by
  have e1 : upd H d (.xd [(f, v)]) e = none := by
    rw [upd_ne ne]
    exact he
  obtain ⟨r1, s1⟩ := r.layFz (ho := .xd [(f, v)]) hd
  obtain ⟨r2, s2⟩ := r1.layFz (ho := .ext (errO e C d)) e1
  have s := s1.trans s2
  refine ⟨_, r2, s, .err upd_same ?_ (h.mono s.f)⟩
  rw [upd_ne (Ne.symm ne)]
  exact upd_same
def wMkV (C : Addr) (f : Str) (w : WL) : WF := fun δ Q E => w δ (fun xs δ' => match xs with
  | [x] => Q (.err C f x) δ'
  | _ => False) E
def IsErrK (P : Program) (K : PySem.W.Frag) (mg : Str → Option Value) (nm f : Str) (C : Addr) : Prop := ∃ qi fI, ETxt P K mg nm qi f C fI ∧ (∀ u, EBinds K fI f [] [(f, u)] u) ∧ EBinds K fI f [] [] .none
theorem mkv_run {t : TA} {w : WL} (h2 : ∀ (B : Bs) (F H : Hp) (σ : St) (δ : Dl) (Q : List D → Dl → Prop) (E : XQ) (Qh : List V → Hp → Prop), RB Φ.K B F H σ δ → w δ Q E → (∀ vs F' H' xs δ', RB Φ.K B F' H' σ δ' → Stp σ δ δ' F H F' H' → RepL Φ.K F' vs xs → Q xs δ' → Qh vs H') → XL Φ.K B W σ E → t σ H Qh) :
    ∀ (B : Bs) (F H : Hp) (σ : St) (δ : Dl) (Q : D → Dl → Prop) (E : XQ) (Qh : VK), RB Φ.K B F H σ δ → wMkV C f w δ Q E → PostF Φ.K B σ δ F H Q Qh → XL Φ.K B W σ E → tMkV C f t σ H Qh := by
  intro B F H σ δ Q E Qh r hw pp xl
  refine h2 B F H σ δ _ E _ r hw (fun vs F1 H1 xs δ1 r1 s1 reps q => ?_) xl
  split at q
  · cases reps with
    | cons rv rn =>
      cases rn
      refine ⟨_, rfl, fun a d ha hd ne => ?_⟩
      obtain ⟨F2, r2, s2, rep⟩ := r1.layErr (f := f) (C := C) ha hd ne rv
      exact pp _ F2 _ _ δ1 r2 (s1.trans s2) rep q
  · exact q.elim
theorem c_mkv {w : WL} (Cx : Cz Φ W k) (T : ∀ i, IsErrK (Φ.X i).prog (Φ.X i).K (Φ.X i).mg nm f C) (ha : DA Φ W [a] w)
    (hg : ∀ i, Gl (Φ.X i) nm := by intro _; rfl) (hdb : (nm == ("__debug__" : Str)) = false := by decide) (he : ∀ i, starEach (a :: []) (Φ.X i).env = (false, eval a (Φ.X i).env) :: starEach [] (Φ.X i).env := by intro _; rfl)
    (hpl : ∀ i, (backTo pos (starEach [] (Φ.X i).env)).any (·.1) = false := by intro _; rfl) : DF Φ W (.Call (.Name nm p) [a] [] pos) (wMkV C f w) := by
  obtain ⟨t, h1, h2⟩ := ha
  refine ⟨_, fun i => ?_, mkv_run h2⟩
  obtain ⟨qi, fI, T, _, _⟩ := T i
  exact pe_mkv T (Cx.hr i) (h1 i) (hg i) hdb (he i) (hpl i)
theorem c_mkvK {kws : List Keyword} {w : WL} (Cx : Cz Φ W k) (T : ∀ i, IsErrK (Φ.X i).prog (Φ.X i).K (Φ.X i).mg nm f C) (ha : DK Φ W kws w)
    (hall : ∀ i, (backToKw pos (keywordEach kws (Φ.X i).env)).all (·.1.isSome) = true := by intro _; rfl) (hks : ∀ i, (backToKw pos (keywordEach kws (Φ.X i).env)).filterMap (·.1) = [f] := by intro _; rfl)
    (hg : ∀ i, Gl (Φ.X i) nm := by intro _; rfl) (hdb : (nm == ("__debug__" : Str)) = false := by decide)
    (hpl : ∀ i, ((backTo pos (starEach [] (Φ.X i).env)).any (·.1) || (backToKw pos (keywordEach kws (Φ.X i).env)).any (·.1.isNone)) = false := by intro _; rfl) : DF Φ W (.Call (.Name nm p) [] kws pos) (wMkV C f w) := by
  obtain ⟨t, h1, h2⟩ := ha
  refine ⟨_, fun i => ?_, mkv_run h2⟩
  obtain ⟨qi, fI, T, bd, _⟩ := T i
  exact pe_mkvK T bd (Cx.hr i) (h1 i) (hg i) hdb (hall i) (hks i) (hpl i)
def wMkV0 (C : Addr) (f : Str) : WF := fun δ Q _ => Q (.err C f .non) δ
theorem c_mkv0 (Cx : Cz Φ W k) (T : ∀ i, IsErrK (Φ.X i).prog (Φ.X i).K (Φ.X i).mg nm f C) (hg : ∀ i, Gl (Φ.X i) nm := by intro _; rfl) (hdb : (nm == ("__debug__" : Str)) = false := by decide) : DF Φ W (.Call (.Name nm p) [] [] pos) (wMkV0 C f) := by
  refine ⟨tMkV0 C f, fun i => ?_, fun B F H σ δ Q E Qh r hw pp xl a d ha hd ne => ?_⟩
  · obtain ⟨qi, fI, T, _, bd⟩ := T i
    exact pe_mkv0 T bd (Cx.hr i) (hg i) hdb
  · obtain ⟨F2, r2, s2, rep⟩ := r.layErr (f := f) (C := C) ha hd ne (.non (K := Φ.K))
    exact pp _ F2 _ _ δ r2 s2 rep hw
end
section
variable {X : Cx} {e : Expr} {te : TE} {n : Str} {pos : Pos}
def tErrF (Cs : List Addr) (n : Str) (te : TE) : TE := fun σ H Q => te σ H fun x H1 => ∃ (a C dd : Addr) (v : V), x = .ref a ∧ C ∈ Cs ∧ H1 a = some (.ext (errO a C dd)) ∧ H1 dd = some (.xd [(n, v)]) ∧ Q v H1
theorem errO_at {P : Program} {w : World} {H : Hp} {h : Heap} {a C dd : Addr} (I : ObjOk P w H h a (.ext (errO a C dd))) : ∃ t : Addr, h.get? a = some { cls := .ref C, dict := some dd, data := .fields #[.ref t, .none, .none, .none, .bool false, .none] } := by
  have z : ObjOk P w H h a (.ext fun h => ∃ t : Addr, h.get? a = some { cls := .ref C, dict := some dd, data := .fields #[.ref t, .none, .none, .none, .bool false, .none] }) := I
  exact z.1
theorem errO_inst {P : Program} {w : World} {H : Hp} {h : Heap} {a C dd : Addr} {fs : List (Str × V)} (hok : HOk P w H h) (ha : H a = some (.ext (errO a C dd))) (hd : H dd = some (.xd fs)) :
    ∃ (oe od : Obj), PySem.W.InstAt h a oe C (some od) ∧ ∃ mA : Str → Option Value, (∀ y, RelO (fs.lookup y) (mA y)) ∧ ∀ y, PySem.W.lookIn y od = some (mA y) := by
  obtain ⟨t, ho⟩ := errO_at (hok a _ ha)
  obtain ⟨mA, hns, hr⟩ := (show ObjOk P w H h dd (.xd fs) from hok dd _ hd)
  obtain ⟨od, h1, h2⟩ := lookIn_ns hns
  exact ⟨_, od, ⟨ho, rfl, rfl, h1⟩, mA, hr, h2⟩
theorem pe_errf {Cs : List Addr} (T : ∀ C ∈ Cs, ∃ nm, IsErr X.prog X.K X.mg nm n C) (he : PE X e te) (hb : attributeBase e n X.env (eval e X.env) = eval e X.env := by rfl) : PE X (.Attribute e n pos) (tErrF Cs n te) := by
  refine ⟨fun pins s σ H Q I h => ?_⟩
  refine attr_of hb (thn (he.run pins s σ H _ I h) fun u s1 hh => ?_)
  obtain ⟨x, H1, I1, rx, a, C, dd, v, ex, hC, ha, hd, q⟩ := hh
  subst ex
  obtain rfl : u = Value.ref a := rx
  obtain ⟨nm, qi, fI, E⟩ := T C hC
  obtain ⟨oe, od, J, mA, hr, hl⟩ := errO_inst I1.hok ha hd
  obtain ⟨w, hw, rw'⟩ := RelO.some_of (v := v) (o := mA n) (by have z := hr n; rw [show List.lookup n [(n, v)] = some v by simp [List.lookup]] at z; exact z)
  exact HandSPX.exc_get I1.kIn J E.ga E.gg E.exC (PySem.W.findObj_own E.hdC E.noN rfl (by rw [hl, hw])) (handed_of rw') ⟨v, H1, I1.tok _, rw', q⟩
end
section
variable {Φ : Fam} {W : WX} {e : Expr} {n : Str} {pos : Pos} {k : Nat}
def wErrF (Cs : List Addr) (n : Str) (w : WF) : WF := fun δ Q E => w δ (fun x δ' => match x with
  | .err C f y => C ∈ Cs ∧ f = n ∧ Q y δ'
  | _ => False) E
theorem c_errf {Cs : List Addr} {w : WF} (T : ∀ i, ∀ C ∈ Cs, ∃ nm, IsErr (Φ.X i).prog (Φ.X i).K (Φ.X i).mg nm n C) (he : DF Φ W e w)
    (hb : ∀ i, attributeBase e n (Φ.X i).env (eval e (Φ.X i).env) = eval e (Φ.X i).env := by intro _; rfl) : DF Φ W (.Attribute e n pos) (wErrF Cs n w) := by
  obtain ⟨t, h1, h2⟩ := he
  refine ⟨tErrF Cs n t, fun i => pe_errf (T i) (h1 i) (hb i), fun B F H σ δ Q E Qh r hw pp xl => ?_⟩
  refine h2 B F H σ δ _ E _ r hw (fun v F1 H1 x δ1 r1 s1 rep q => ?_) xl
  split at q
  · obtain ⟨hC, rfl, q⟩ := q
    cases rep with
    | err h1 h2 rv => exact ⟨_, _, _, _, rfl, hC, r1.sub _ _ h1, r1.sub _ _ h2, pp _ F1 H1 _ δ1 r1 s1 rv q⟩
  · exact q.elim
end
end DL
namespace PySem.W
open PySem PySem.Spec PySem.Calls PyProof.Rows
structure ErrIs (K : Frag) (D : Addr) : Prop where
  own : findIn K (.ref D) "__class__" = some (some (.builtin "object.__class__"))
  get : specialIn K (.builtin "object.__class__") "__get__" = some (some (.builtin "getset_descriptor.__get__"))
  tk : takesIn K (.builtin "object.__class__") = some true
  obj : mroIn K D (.type "object") = some true
section
variable {prog : Program} {w : World} {A : Around} {E : Value → Shared → Prop} {s : Shared} {K : Frag} {e D : Addr} {oe od : Obj}
theorem err_class {Q : Option Value → Shared → Prop} (ga : findIn K (.ref D) "__getattribute__" = some (some (.builtin "BaseException.__getattribute__"))) (gg : findIn K (.ref D) "__getattr__" = some none) (sb : subIn K (.ref D) (.type "BaseException") = some true)
    (hd : hasDictIn K D = true) (T : ErrIs K D) (X : K.In s.heap) (I : InstAt s.heap e oe D (some od)) (q : Q (some (.ref D)) { s with toks := s.toks + 1 }) : wpAny (model prog w) A (getAttr? (.ref e) "__class__") Q E s := by
  have found : findObj K D (some od) "__class__" = some (.bind (.builtin "getset_descriptor.__get__") (.builtin "object.__class__")) := by
    obtain ⟨cd, hc, _⟩ := any_some hd
    exact findObj_data (by rw [hc] <;> rfl) T.own T.get T.tk
  obtain ⟨hp, g, d, t, os⟩ := s
  have ty := I.type (M := model prog w)
  have l1 := looks_findIn (M := model prog w) X ga
  have l2 := looks_findIn (M := model prog w) X gg
  have l3 := looks_find (M := model prog w) X I found
  have isB : Looks (model prog w) hp (isInstance (.ref e) (.type "BaseException")) true := ty.andThen (looks_subIn X sb)
  have b2 : (Value.builtin "BaseException.__getattribute__" == Value.builtin "object.__getattribute__") = false := by decide +kernel
  have b1 : (onTheHeap (Value.ref D) && Value.builtin "BaseException.__getattribute__" == Value.builtin "object.__getattribute__") = false := by
    rw [b2] <;> rfl
  unfold getAttr? getAttrBy? getAttrBy
  refine wpAny_bind (wpAny_mkText (wpAny_bind (wpAny_attempt (wpAny_holding (wpAny_bind (ty.at (wpAny_bind (l1.at ?_))))))))
  show wpAny _ _ (if (onTheHeap (Value.ref D) && Value.builtin "BaseException.__getattribute__" == Value.builtin "object.__getattribute__") = true then _ else _) _ _ _
  rw [b1, if_neg Bool.false_ne_true]
  unfold getAttrByItsOwn hookBefore
  refine wpAny_bind ?_
  rw [if_pos (show onTheHeap (Value.ref D) = true from rfl)]
  refine l2.at (wpAny_bind (wpAny_attempt (wpAny_holding ?_)))
  unfold callGetattribute
  rw [show (false && onTheHeap (Value.builtin "BaseException.__getattribute__")) = false from rfl, if_neg Bool.false_ne_true]
  unfold boundAndCalled
  rw [PySem.F.excAttr_ValueError.ga.bind (.ref e)]
  refine wpAny_bind (wpAny_pure ?_)
  show wpAny _ _ (call (.builtin "BaseException.__getattribute__") [.ref e, .str "__class__" t]) _ _ _
  refine wpAny_call (codeAny_call_builtin PySem.F.excAttr_ValueError.ga.plain PySem.F.entry_bexc_ga (@check_slot (model prog w) _ _ ⟨hp, g, d, t + 1, os⟩ "BaseException.__getattribute__" "BaseException" "__getattribute__" (.ref e)
    [.str "__class__" t] [] _ (by decide +kernel) (by decide +kernel) isB (PySem.F.args_bexc_ga (.ref e) (.str "__class__" t)) ?_))
  unfold Builtin.«object.__getattribute__»
  refine wpAny_bind (wpAny_of_eq (a := ((Value.ref e : Value), [Value.str "__class__" t])) (by first | rfl | (simp only [slotArgs] <;> rfl)) (wpAny_bind (wpAny_pure (wpAny_bind (ty.at (wpAny_bind (l3.at ?_)))))))
  show wpAny _ _ (holding [Value.builtin "object.__class__"] (call (.builtin "getset_descriptor.__get__") [.builtin "object.__class__", .ref e, .ref D]) >>= ret) _ _ _
  refine wpAny_bind (wpAny_holding (wpAny_call (class_get (s := ⟨hp, g, d, t + 1, os⟩) (ox := oe) (od := some od) X I T.obj (wpAny_pure ?_))))
  show wpAny _ _ (handedOut (.ref D)) _ _ _
  rw [handedOut_of (v := .ref D) rfl]
  first
    | exact wpAny_pure (wpAny_pure q)
    | exact wpAny_pure q
    | exact wpAny_pure (wpAny_bind (wpAny_pure (wpAny_pure q)))
theorem err_kit (ga : findIn K (.ref D) "__getattribute__" = some (some (.builtin "BaseException.__getattribute__"))) (gg : findIn K (.ref D) "__getattr__" = some none) (sb : subIn K (.ref D) (.type "BaseException") = some true) (hd : hasDictIn K D = true) (T : ErrIs K D) :
    KitX K (.ref e) (.ref D) (fun h => ∃ (oe od : Obj), InstAt h e oe D (some od)) where
  ty := fun _ _ _ ⟨_, _, I⟩ => I.type
  it := fun _ _ X _ => by
    obtain ⟨cd, hc, _⟩ := any_some hd
    unfold clsIn at hc
    split at hc
    · rename_i ho
      intro A' Q' E' s' k q
      unfold isType loadHead
      exact wpAny_bind (wpAny_loadPart (k _ _ (X _ _ ho)) (wpAny_pure q))
    · cases hc
  ne := fun h tp dd its n sl X htp => by
    obtain ⟨cd, hc, _⟩ := any_some hd
    refine Bool.eq_false_iff.mpr fun q => ?_
    obtain rfl : D = tp := Value.ref.inj (beq_iff_eq.mp q)
    unfold clsIn at hc
    split at hc
    · rename_i ho
      cases (X _ _ ho).symm.trans htp
    · cases hc
  ca := fun X ⟨_, _, I⟩ k => err_class ga gg sb hd T X I k
end
end PySem.W
namespace DL
open PySem L2
structure ErrFx (K : PySem.W.Frag) (C : Addr) : Prop where
  ga : PySem.W.findIn K (.ref C) "__getattribute__" = some (some (.builtin "BaseException.__getattribute__"))
  gg : PySem.W.findIn K (.ref C) "__getattr__" = some none
  sb : PySem.W.subIn K (.ref C) (.type "BaseException") = some true
  hd : PySem.W.hasDictIn K C = true
  is : PySem.W.ErrIs K C
def rErrIs (K : PySem.W.Frag) : List V → Hp → VK → Prop := fun xs H Q => ∃ (a C dd : Addr) (fs : List (Str × V)) (c : V) (u : Value) (b : Bool), xs = [.ref a, c] ∧ H a = some (.ext (errO a C dd)) ∧ H dd = some (.xd fs) ∧ ErrFx K C ∧ ClsV c u ∧ PySem.W.kitOne K (.ref C) u = some b ∧ Q (.bl b) H
theorem call_errIs {X : Cx} : CallR X (.builtin "isinstance") (rErrIs X.K) := by
  intro pins s σ H xs us Q I r h
  obtain ⟨a, C, dd, fs, c, u, b, rfl, ha, hd, T, k, e, q⟩ := h
  obtain ⟨u1, u2, rfl, r1, r2⟩ := vals2 r
  have e2 := k.eq r2
  subst e2
  obtain rfl : u1 = Value.ref a := r1
  obtain ⟨oe, od, J, _⟩ := errO_inst I.hok ha hd
  exact PySem.W.kia_one (PySem.W.err_kit T.ga T.gg T.sb T.hd T.is) I.kIn ⟨oe, od, J⟩ e (fun z => nomatch z) fun tk => ⟨.bl b, H, I.tok tk, rfl, q⟩
section
variable {Φ : Fam} {W : WX} {x : Str} {C : Addr} {k : Nat} {a : Expr} {p p2 pos : Pos}
def wErrIs (Cs : List Addr) (val : Addr → Bool) (w : WF) : WE := fun δ Q E => w δ (fun z δ' => match z with
  | .err C _ _ => C ∈ Cs ∧ Q (.d (.bl (val C))) δ'
  | _ => False) E
theorem errIs_run {Cs : List Addr} {val : Addr → Bool} {c : V} {u : Value} {t : TE} {w : WF} (T : ∀ C ∈ Cs, ErrFx Φ.K C) (hc : ClsV c u) (hv : ∀ C ∈ Cs, PySem.W.kitOne Φ.K (.ref C) u = some (val C))
    (h2 : ∀ (B : Bs) (F H : Hp) (σ : St) (δ : Dl) (Q : D → Dl → Prop) (E : XQ) (Qh : VK), RB Φ.K B F H σ δ → w δ Q E → PostF Φ.K B σ δ F H Q Qh → XL Φ.K B W σ E → t σ H Qh) :
    ∀ (B : Bs) (F H : Hp) (σ : St) (δ : Dl) (Q : SD → Dl → Prop) (E : XQ) (Qh : VK), RB Φ.K B F H σ δ → wErrIs Cs val w δ Q E → Post Φ.K B σ δ F H Q Qh → XL Φ.K B W σ E → tCB (rErrIs Φ.K) (tCons t (tCons (tC c) tNil)) σ H Qh := by
  intro B F H σ δ Q E Qh r hw pp xl
  refine h2 B F H σ δ _ E _ r hw (fun v F1 H1 z δ1 r1 s1 rep q => ?_) xl
  split at q
  · obtain ⟨hC, q⟩ := q
    cases rep with
    | err h1 h2 rv => exact ⟨_, _, _, _, c, u, _, rfl, r1.sub _ _ h1, r1.sub _ _ h2, T _ hC, hc, hv _ hC, pp _ F1 H1 (.d _) δ1 r1 s1 (.bl _) q⟩
  · exact q.elim
theorem c_errIs {Cs : List Addr} {val : Addr → Bool} {w : WF} (T : ∀ C ∈ Cs, ErrFx Φ.K C) (hv : ∀ D ∈ Cs, PySem.W.kitOne Φ.K (.ref D) (.ref C) = some (val D)) (ha : DF Φ W a w) (hm : ∀ i, (Φ.X i).mg "isinstance" = none) (hmx : ∀ i, (Φ.X i).mg x = some (.ref C))
    (hg : ∀ i, Gl (Φ.X i) "isinstance" := by intro _; rfl) (hgx : ∀ i, Gl (Φ.X i) x := by intro _; rfl) (hd : (x == ("__debug__" : Str)) = false := by decide) (hi : bootBuiltins "isinstance" = some (.builtin "isinstance") := by decide +kernel)
    (he : ∀ i, starEach [a, .Name x p2] (Φ.X i).env = (false, eval a (Φ.X i).env) :: starEach [.Name x p2] (Φ.X i).env := by intro _; rfl) (he2 : ∀ i, starEach [.Name x p2] (Φ.X i).env = (false, eval (.Name x p2) (Φ.X i).env) :: starEach [] (Φ.X i).env := by intro _; rfl)
    (hpl : ∀ i, (backTo pos (starEach [.Name x p2] (Φ.X i).env)).any (·.1) = false := by intro _; rfl) : DE Φ W (.Call (.Name "isinstance" p) [a, .Name x p2] [] pos) (wErrIs Cs val w) := by
  obtain ⟨t, h1, h2⟩ := ha
  refine ⟨tCB (rErrIs Φ.K) (tCons t (tCons (tC (.ref C)) tNil)), fun i => ?_, errIs_run T (.own C) hv h2⟩
  have h := call_errIs (X := Φ.X i)
  rw [Φ.hK i] at h
  exact pe_callB h (hg i) (hm i) hi (pa_cons (h1 i) (pa_cons (pe_glob (v := .ref C) (hgx i) (hmx i) rfl hd) pa_nil (he2 i)) (he i)) (by decide) (by decide) (he i) (hpl i)
theorem c_errIsT {Cs : List Addr} {val : Addr → Bool} {w : WF} (Ty : String) (T : ∀ C ∈ Cs, ErrFx Φ.K C) (hv : ∀ D ∈ Cs, PySem.W.kitOne Φ.K (.ref D) (.type Ty) = some (val D)) (ha : DF Φ W a w) (hm : ∀ i, (Φ.X i).mg "isinstance" = none) (hmx : ∀ i, (Φ.X i).mg x = none) (hb : bootBuiltins x = some (.type Ty))
    (hg : ∀ i, Gl (Φ.X i) "isinstance" := by intro _; rfl) (hgx : ∀ i, Gl (Φ.X i) x := by intro _; rfl) (hn : x ≠ "__name__" := by decide) (hd : (x == ("__debug__" : Str)) = false := by decide) (hi : bootBuiltins "isinstance" = some (.builtin "isinstance") := by decide +kernel)
    (he : ∀ i, starEach [a, .Name x p2] (Φ.X i).env = (false, eval a (Φ.X i).env) :: starEach [.Name x p2] (Φ.X i).env := by intro _; rfl) (he2 : ∀ i, starEach [.Name x p2] (Φ.X i).env = (false, eval (.Name x p2) (Φ.X i).env) :: starEach [] (Φ.X i).env := by intro _; rfl)
    (hpl : ∀ i, (backTo pos (starEach [.Name x p2] (Φ.X i).env)).any (·.1) = false := by intro _; rfl) : DE Φ W (.Call (.Name "isinstance" p) [a, .Name x p2] [] pos) (wErrIs Cs val w) := by
  obtain ⟨t, h1, h2⟩ := ha
  refine ⟨tCB (rErrIs Φ.K) (tCons t (tCons (tC (.ty Ty)) tNil)), fun i => ?_, errIs_run T (.ty Ty) hv h2⟩
  have h := call_errIs (X := Φ.X i)
  rw [Φ.hK i] at h
  exact pe_callB h (hg i) (hm i) hi (pa_cons (h1 i) (pa_cons (pe_bltn (v := .ty Ty) (hgx i) (hmx i) hb rfl hn hd) pa_nil (he2 i)) (he i)) (by decide) (by decide) (he i) (hpl i)
end
end DL
namespace Hd
open PySem PySem.Spec L2 DL He PyProof.Rows
open PySem.W (fnX)
structure ErrT2 (e : ErrD) : Prop where
  kw : ∀ (cc T : Addr) (kV doc pm : Value) (an : Option Addr) (cda : Addr) (ct : Value) (us ws its : List Value), us.length = 1 → ws.length = 1 → its.length = 1 →
    ∃ k, bindArgs (fnX "__init__" e.qual (defArgs e.st) (defBody e.st) (defScope e.st) [("__class__", cc)] (.ref T) kV doc pm an (.ref cda) ct) ⟨us, [e.f].zip ws⟩ = seqItems? (.ref T) >>= k ∧ k (some its.toArray) = pure ([("self" : Str), e.f].zip (us ++ ws))
  no : ∀ (cc T : Addr) (kV doc pm : Value) (an : Option Addr) (cda : Addr) (ct : Value) (us its : List Value), us.length = 1 → its.length = 1 →
    ∃ k, bindArgs (fnX "__init__" e.qual (defArgs e.st) (defBody e.st) (defScope e.st) [("__class__", cc)] (.ref T) kV doc pm an (.ref cda) ct) ⟨us, []⟩ = seqItems? (.ref T) >>= k ∧ k (some its.toArray) = pure ([("self" : Str), e.f].zip (us ++ its))
section
variable {P : Program} {w : World} {K : PySem.W.Frag} {mg : Str → Option Value} {base : Heap}
theorem init_fd {e : ErrD} (v : fnE K e.nm = e.val) (c : initB P K (ga K e.nm) (ma K (ga K e.nm) "__init__") e.qual = true) :
    ∃ (o : Obj) (fd : FuncData), K.lookup (ma K (ga K e.nm) "__init__") = some o ∧ o.data = .func fd ∧ ∃ (cc T : Addr) (kV doc pm : Value) (an : Option Addr) (cda : Addr) (ct : Value), fd = fnX "__init__" e.qual (defArgs e.st) (defBody e.st) (defScope e.st) [("__class__", cc)] (.ref T) kV doc pm an (.ref cda) ct ∧
      ∃ (ot : Obj) (its : List Value) (m : Nat), K.lookup T = some ot ∧ ot.data = .seq its.toArray m ∧ Vals [.non] its := by
  unfold initB at c
  unfold fnE ErrD.val at v
  split at c
  · rename_i oc od fd osl eq
    rw [eq] at v
    obtain ⟨n1, n2, n3, n4, n5, n6, n7, n8, n9, n10, n11, n12, n13, n14, n15⟩ := fd
    simp only [Option.some.injEq, Prod.mk.injEq] at v
    obtain ⟨h1, h2, h3, h4, h5, h6, h7, h8⟩ := v
    obtain ⟨d1, d⟩ := ba c
    obtain ⟨d2, d3⟩ := ba d
    obtain ⟨dA, d0⟩ := ba d1
    clear d1
    replace d0 : dflB K n8 [.non] = true := d0
    split at d2
    · rename_i cda e1
      split at d3
      · rename_i y cc e4
        replace e1 : n13 = .ref cda := e1
        replace e4 : n7 = [(y, cc)] := e4
        subst e1 e4
        simp only [List.map_cons, List.map_nil, List.cons.injEq, and_true] at h7
        subst h1 h2 h3 h4 h5 h6 h7 h8
        rcases dflB_ok d0 with ⟨z, _⟩ | ⟨_, T0, ot, its, m0, rfl, lT, oT, rT⟩
        · cases z
        exact ⟨_, _, eq, rfl, cc, T0, n9, n10, n11, n12, cda, n14, rfl, ot, its, m0, lT, oT, rT⟩
      · cases d3
    · cases d2
  · cases c
theorem isErrK_of {e : ErrD} {h : Heap} (X : K.In h) (G : h.Ns mainGlobals mg) (T : ErrT P e) (T2 : ErrT2 e) (v : fnE K e.nm = e.val) (c : errB P K e = true) : IsErrK P K mg e.nm e.f (ga K e.nm) := by
  obtain ⟨qi, fI, E⟩ := isErr_of X G T v c
  unfold errB at c
  simp only [Bool.and_eq_true] at c
  obtain ⟨_, _, _, _, _, _, _, ci, _, _, _, _, _, _, _, _, _, _, _, cf⟩ := c
  have ef : fI = ma K (ga K e.nm) "__init__" := by
    have z := (E.iC).symm.trans (eqO_ok ci)
    simpa using z
  subst ef
  obtain ⟨o, fd, ho, hd, cc, T0, kV, doc, pm, an, cda, ct, efd, ot, its, m, lT, oT, rT⟩ := init_fd v cf
  have one : its.length = 1 := rT.length.symm
  refine ⟨qi, _, E, fun u x s fd' X' hfd => ?_, fun x s fd' X' hfd => ?_⟩
  · obtain ⟨o', h1, h2⟩ := hfd
    rw [ho] at h1
    cases h1
    rw [hd] at h2
    cases h2
    subst efd
    obtain ⟨k, b1, b2⟩ := T2.kw cc T0 kV doc pm an cda ct [.ref x] [u] its rfl rfl one
    refine BindsTo.of_looks fun M => ?_
    rw [show ([(e.f, u)] : List (Str × Value)) = [e.f].zip [u] from rfl, b1]
    exact looks_items X' lT oT (.of_pure b2)
  · obtain ⟨o', h1, h2⟩ := hfd
    rw [ho] at h1
    cases h1
    rw [hd] at h2
    cases h2
    subst efd
    obtain ⟨k, b1, b2⟩ := T2.no cc T0 kV doc pm an cda ct [.ref x] its rfl one
    refine BindsTo.of_looks fun M => ?_
    rw [b1]
    refine looks_items X' lT oT (.of_pure ?_)
    rw [b2]
    cases rT with
    | cons a b =>
      cases b
      cases a
      rfl
theorem isErr_k {nm f : Str} {C : Addr} (h : IsErrK P K mg nm f C) : IsErr P K mg nm f C := by
  obtain ⟨qi, fI, E, _, _⟩ := h
  exact ⟨qi, fI, E⟩
theorem errFx_of {x f : Str} (T : IsErrK P K mg x f (ga K x)) (h : errIsB K x = true) : ErrFx K (ga K x) := by
  obtain ⟨qi, fI, E, _, _⟩ := T
  obtain ⟨h1, h⟩ := ba h
  obtain ⟨h2, h⟩ := ba h
  obtain ⟨h3, h4⟩ := ba h
  exact ⟨E.ga, E.gg, E.exC, E.hdC, ⟨eqO_ok h1, eqO_ok h2, of_decide_eq_true h3, of_decide_eq_true h4⟩⟩
theorem kits_ok {xs : List Str} {y : Str} (h : kitsB K xs y = true) : ∀ D ∈ xs.map (ga K), PySem.W.kitOne K (.ref D) (.ref (ga K y)) = some (decide (D = ga K y)) := fun D hD => by
  obtain ⟨x, hx, rfl⟩ := List.mem_map.mp hD
  exact of_decide_eq_true (List.all_eq_true.mp h x hx)
theorem kitAll_ok {xs : List Str} {c : Value} (h : kitAllB K xs c = true) : ∀ D ∈ xs.map (ga K), PySem.W.kitOne K (.ref D) c = some true := fun D hD => by
  obtain ⟨x, hx, rfl⟩ := List.mem_map.mp hD
  exact of_decide_eq_true (List.all_eq_true.mp h x hx)
theorem apart_ok {xs : List Str} (h : apartB K xs = true) : (xs.map (ga K)).Nodup := of_decide_eq_true h
end
end Hd
namespace Hd
open PySem PySem.Spec L2 DL He
open PyProof.Rows (envOfC)
section
variable {P : Program} {w : World} {K : PySem.W.Frag} {mg : Str → Option Value} {base : Heap}
variable {x qual : Str} {st : Stmt} {dvs : List V} {f : Addr} {fd : FuncData} {N ps : List Str} {k : Nat} {ds : DSpG} {ws : WSG}
end
end Hd
namespace Hd
open PySem PySem.Spec L2 DL PyProof.Rows
variable {P : Program} {w : World} {K : PySem.W.Frag} {mg : Str → Option Value} {base : Heap}
variable {x qual : Str} {st : Stmt} {dvs : List V} {f : Addr} {fd : FuncData} {N ps : List Str}
end Hd
namespace L2
open PySem PySem.Spec PyProof.Rows
section
variable {X : Cx}
end
end L2
namespace DL
open PySem L2
section
variable {Φ : Fam} {W : WX} {a : Expr} {p pos : Pos}
def sIsB (neg b : Bool) : S1 := fun x Q => match x with
  | .bl c => Q (.d (.bl (neg ^^ decide (c = b))))
  | .non => Q (.d (.bl neg))
  | _ => False
def wIsB (neg b : Bool) (w : WO) : WE := fun δ Q E => w δ (fun o δ1 => match view δ1 o with
  | some x => sIsB neg b x (fun sd => Q sd δ1)
  | none => False) E
end
section
variable {K : PySem.W.Frag} {B : Bs} {F H F' H' : Hp} {σ : St} {δ : Dl}
def cutH (H : Hp) (a : Addr) : Hp := fun b => if b = a then none else H b
theorem cutH_ne {b a : Addr} (h : b ≠ a) : cutH H a b = H b := if_neg h
theorem RB.cut {a : Addr} {c : Cn} (r : RB K B F H σ δ) (oa : OwnA K F H a c) (now : ¬ Ow σ δ a) (hb : B.H a = none) : RB K B F (cutH H a) σ δ := by
  have fa := oa.1
  have ne : ∀ {b o}, F b = some o → b ≠ a := fun {b o} e z => by
    subst z
    rw [fa] at e; cases e
  have neO : ∀ {b}, b ∈ B.O → b ≠ a := fun {b} h z => by
    subst z
    obtain ⟨_, _, o, e⟩ := r.hO _ h
    rw [hb] at e; cases e
  refine ⟨fun b o e => by rw [cutH_ne (ne e)]; exact r.sub _ _ e, r.len, r.dat, fun i c' e => ?_, fun i c' e => ?_, r.apt, r.f0, fun b o e n => ?_, fun b h => ?_, r.nw⟩
  · obtain ⟨a', h1, h2, h3⟩ := r.own i c' e
    have : a' ≠ a := fun z => now (z ▸ ⟨i, ⟨c', .inl e⟩, h1⟩)
    obtain ⟨g1, u, g2, g3⟩ := h2
    exact ⟨a', h1, ⟨g1, u, by rw [cutH_ne this]; exact g2, g3⟩, h3⟩
  · obtain ⟨a', h1, h2, h3, h4⟩ := r.par i c' e
    obtain ⟨g1, u, g2, g3⟩ := h2
    exact ⟨a', h1, ⟨g1, u, by rw [cutH_ne (neO h3)]; exact g2, g3⟩, h3, h4⟩
  · have : b ≠ a := fun z => by
      subst z
      rw [hb] at e; cases e
    rw [cutH_ne this]
    exact r.h0 b o e n
  · obtain ⟨h1, ⟨o, h2, h3⟩, h4⟩ := r.hO b h
    exact ⟨h1, ⟨o, by rw [cutH_ne (neO h)]; exact h2, h3⟩, h4⟩
theorem Stp.cut {a : Addr} {F0 H0 : Hp} {δ0 : Dl} (s : Stp σ δ0 δ F0 H0 F H) (h0 : H0 a = none) : Stp σ δ0 δ F0 H0 F (cutH H a) := by
  have ne : ∀ {b o}, H0 b = some o → b ≠ a := fun {b o} e z => by
    subst z
    rw [h0] at e; cases e
  exact ⟨s.f, fun b o e n => by rw [cutH_ne (ne e)]; exact s.h b o e n, s.n, s.o, fun b o e => by rw [cutH_ne (ne e)]; exact s.k b o e⟩
end
section
variable {Φ : Fam} {W : WX} {k j : Nat} {e0 : Expr} {es : List Expr} {pos p : Pos} {x : Str} {ps : List Str} {ds : DSp}
def wFnN (ds : DSp) (w1 : WE) (w : WL) : WE := fun δ Q E => w1 δ (fun sd δ1 => match sd with
  | .o c => w δ1 (fun xs δ2 => ds (some (.p c) :: argsD xs) (fun sd α => match sd with
    | .d y => Q (.d y) δ2
    | .o c' => Q (.o c') δ2
    | .p _ => False) (fun C f y _ => E C f y δ2)) E
  | _ => False) E
end
end DL
namespace L2
open PySem PySem.Spec PyProof.Rows
section
variable {X : L2.Cx} {E : L2.St → XK} {fe e : Expr} {es : List Expr} {pos : Pos} {tf : TE} {t : TA}
def HeldF (X : L2.Cx) (f : Addr) (sp : Sp) : Prop := ∃ k fd ps, FnOk X.prog X.w X.K X.mg X.base (L2.CX X.prog X.w) k f fd ps sp ∧ Room k X.A ∧ PySem.W.keepIn X.K (.ref f) = true ∧ Binds X.K fd ps []
theorem PE.weak {t t' : TE} (h : PE X e t) (w : ∀ σ H Q, t' σ H Q → t σ H Q) : PE X e t' := ⟨fun pins s σ H Q I q => h.run pins s σ H Q I (w σ H Q q)⟩
theorem PA.weak {t t' : TA} (h : PA X es t) (w : ∀ σ H Q, t' σ H Q → t σ H Q) : PA X es t' := ⟨fun pos pins s σ H Q I q => h.run pos pins s σ H Q I (w σ H Q q)⟩
def tMono (t : TE) : TE := fun σ H Q => ∃ Q0, t σ H Q0 ∧ ∀ v H1, Q0 v H1 → Q v H1
theorem PE.mono {t : TE} (h : PE X e t) : PE X e (tMono t) := ⟨fun pins s σ H Q I ⟨Q0, q, m⟩ => thn (h.run pins s σ H Q0 I q) fun u s' ⟨v, H', I', r, q'⟩ => ⟨v, H', I', r, m v H' q'⟩⟩
end
end L2
namespace DL
open PySem PySem.Spec PyProof.Rows L2
inductive DFs (Φ : Fam) (k : Nat) : List Expr → List DSp → Prop
  | nil : DFs Φ k [] []
  | cons {x : Str} {p : Pos} {es : List Expr} {dss : List DSp} {j : Nat} {ps : List Str} {ds : DSp} (F : ∀ i, IsFn (Φ.X i).prog (Φ.X i).w (Φ.X i).K (Φ.X i).mg (Φ.X i).base x j ps ds) (r : DFs Φ k es dss) (hj : j ≤ k := by decide)
      (hg : ∀ i, Gl (Φ.X i) x := by intro _; rfl) (hdb : (x == ("__debug__" : Str)) = false := by decide) (he : ∀ i, starEach (.Name x p :: es) (Φ.X i).env = (false, eval (.Name x p) (Φ.X i).env) :: starEach es (Φ.X i).env := by intro _; rfl) : DFs Φ k (.Name x p :: es) (ds :: dss)
section
variable {Φ : Fam} {W : WX} {k : Nat} {e : Expr} {es fes : List Expr} {idx : Expr} {dss : List DSp} {lp sp pos : Pos}
theorem DFs.pa (C : Cz Φ W k) (h : DFs Φ k fes dss) (i : Φ.ι) : ∃ fs : List Addr, fs.length = dss.length ∧ PA (Φ.X i) fes (fun _ H Q => Q (fs.map V.ref) H) ∧ ∀ (j : Nat) (f : Addr) (ds : DSp), fs[j]? = some f → dss[j]? = some ds → HeldF (Φ.X i) f (toSp Φ.K ds) := by
  induction h with
  | nil => exact ⟨[], rfl, pa_nil, fun j f ds h => by simp at h⟩
  | cons F r hj hg hdb he ih =>
    obtain ⟨fs, h1, h2, h3⟩ := ih
    obtain ⟨f, fd, g1, g2, g3, g4⟩ := F i
    refine ⟨f :: fs, by rw [List.length_cons, List.length_cons, h1], (pa_cons (pe_glob (v := V.ref f) (hg i) g1 rfl hdb) h2 (he i)).weak fun σ H Q q => q, fun j f' ds' e1 e2 => ?_⟩
    cases j with
    | zero =>
      cases e1
      cases e2
      rw [← Φ.hK i]
      exact ⟨_, fd, _, g4, C.rm hj i, g2, g3⟩
    | succ j => exact h3 j f' ds' e1 e2
end
end DL
namespace L2
open PySem PySem.Spec PyProof.Rows
section
variable {X : L2.Cx}
end
end L2
namespace DL
open PySem PySem.Spec L2
section
variable {Φ : Fam} {W : WX} {e1 e2 : Expr}
end
end DL
namespace DL
open PySem PySem.Spec L2
section
variable {K : PySem.W.Frag} {B : Bs} {F H : Hp} {σ : L2.St} {δ : Dl} {G : Rg}
theorem RgOk.tail {p : Addr × List D} (g : RgOk K B F H σ δ (p :: G)) : RgOk K B F H σ δ G :=
  ⟨(List.nodup_cons.mp g.nd).2, fun q hq => g.fr q (List.mem_cons_of_mem _ hq), fun q hq => g.at_ q (List.mem_cons_of_mem _ hq), fun q hq => g.apt q (List.mem_cons_of_mem _ hq)⟩
theorem RgOk.head {p : Addr × List D} (g : RgOk K B F H σ δ (p :: G)) : RgOk K B F H σ δ [p] :=
  ⟨by simp, fun q hq => by rw [List.mem_singleton.mp hq]; exact g.fr p List.mem_cons_self, fun q hq => by rw [List.mem_singleton.mp hq]; exact g.at_ p List.mem_cons_self, fun q hq => by rw [List.mem_singleton.mp hq]; exact g.apt p List.mem_cons_self⟩
theorem RgOk.cons {p : Addr × List D} (g1 : RgOk K B F H σ δ [p]) (g : RgOk K B F H σ δ G) (n : p.1 ∉ G.map (·.1)) : RgOk K B F H σ δ (p :: G) := by
  have m1 : p ∈ [p] := List.mem_singleton.mpr rfl
  refine ⟨List.nodup_cons.mpr ⟨n, g.nd⟩, fun q hq => ?_, fun q hq => ?_, fun q hq => ?_⟩
  all_goals rcases List.mem_cons.mp hq with rfl | hq
  · exact g1.fr _ m1
  · exact g.fr q hq
  · exact g1.at_ _ m1
  · exact g.at_ q hq
  · exact g1.apt _ m1
  · exact g.apt q hq
theorem RgOk.ow {σ2 : L2.St} {δ2 : Dl} (g : RgOk K B F H σ δ G) (h : ∀ b, Ow σ2 δ2 b → Ow σ δ b) : RgOk K B F H σ2 δ2 G := ⟨g.nd, g.fr, g.at_, fun p hp z => g.apt p hp (h _ z)⟩
theorem RgOk.bs {B2 : Bs} (g : RgOk K B F H σ δ G) (h : ∀ b, b ∈ G.map (·.1) → B2.H b = none) : RgOk K B2 F H σ δ G := ⟨g.nd, fun p hp => ⟨(g.fr p hp).1, h _ (List.mem_map_of_mem hp)⟩, g.at_, g.apt⟩
end
section
variable {Φ : Fam} {W : WX} {elt tg iter : Expr} {scope : Scope} {own : List (Str × Nat)} {pos : Pos}
end
end DL
namespace DL
open PySem PySem.Spec L2
section
variable {Φ : Fam} {W : WX} {a b : Expr} {pos : Pos}
def wParG (i j : Nat) (u : WLG) : WSG := fun M E δ G => u δ G (fun xs δ' G' => ∃ x y, xs = [x, y] ∧ i < δ'.length ∧ j < δ'.length ∧ M.nx ((δ'.set i (some (.d x))).set j (some (.d y))) G') E
theorem dsg_par (i j : Nat) {x y : Str} {px py pt : Pos} {kt k2 : Nat} {pt2 : Pos} {u : WLG} (hc : ∀ k, (Φ.X k).calm = true) (hN : ∀ k, (Φ.X k).N.Nodup) (h : DAG Φ W [a, b] u)
    (hw : ∀ k, swappedStores [.Tuple [.Name x px, .Name y py] kt pt] (.Tuple [a, b] k2 pt2) (Φ.X k).env = pure (some [x, y]))
    (hi : ∀ k, (Φ.X k).N[i]? = some x := by intro _; rfl) (hj : ∀ k, (Φ.X k).N[j]? = some y := by intro _; rfl) (hij : i ≠ j := by decide)
    (hx : ∀ k, (Φ.X k).env.scope.names.lookup x = some .local := by intro _; rfl) (hy : ∀ k, (Φ.X k).env.scope.names.lookup y = some .local := by intro _; rfl)
    (hss : ∀ k, swapsWithSole [.Tuple [.Name x px, .Name y py] kt pt] (.Tuple [a, b] k2 pt2) pos.line (Φ.X k).env = pure false := by intro _; rfl) :
    DSG Φ W (.Assign [.Tuple [.Name x px, .Name y py] kt pt] (.Tuple [a, b] k2 pt2) pos) (wParG i j u) := by
  obtain ⟨t, h1, h2⟩ := h
  refine ⟨_, fun k => ps_par (hc k) (hN k) (hi k) (hj k) hij (hx k) (hy k) (h1 k) (hw k) (hss k), fun B F H σ δ G M E D r g hwp lk xl => ?_⟩
  refine h2 B F H σ δ G _ E _ r g hwp (fun vs F1 H1 xs δ1 G1 r1 g1 s1 reps k q => ?_) (xl σ)
  obtain ⟨x, y, rfl, l1, l2, q⟩ := q
  cases reps with
  | cons hx' r2 =>
    cases r2 with
    | cons hy' r3 =>
      cases r3
      have l2' : j < (δ1.set i (some (.d x))).length := by rw [List.length_set]; exact l2
      have p1 := r1.put (H0 := H) (sd := .d x) hx' l1
      have g2 := g1.put (H0 := H) (sd := .d x) hx' (fun _ _ e => by cases e) l1 (by rw [← r1.len]; exact l1)
      have p2 := p1.put (H0 := H) (sd := .d y) hy' l2'
      have g3 := g2.put (H0 := H) (sd := .d y) hy' (fun _ _ e => by cases e) l2' (by rw [← p1.len]; exact l2')
      exact ⟨_, _, rfl, lk.nx _ _ _ _ G1 p2 g3 q⟩
def wTupG (u : WLG) : WEG := fun δ G Q E => u δ G (fun xs δ' G' => xs.length ≤ sizeLine ∧ Q (.d (.tup xs)) δ' G') E
end
end DL
namespace DL
open PySem PySem.Spec L2
section
variable {Φ : Fam} {W : WX} {t : TE} {w : WF} {e : Expr} {pos : Pos}
end
end DL
namespace TX
open PySem PySem.Spec PyProof.Rows L2
section
variable {prog : Program} {w : World} {A : Around} {E : Value → Shared → Prop} {s : Shared}
end
end TX
namespace DL
open PySem PySem.Spec L2 TX
section
variable {X : Cx} {a : Expr} {ta : TE} {p p2 q pos : Pos}
end
section
variable {Φ : Fam} {W : WX} {e : Expr} {p p2 q pos : Pos}
end
end DL
namespace DL
open PySem PySem.Spec L2
section
variable {Φ : Fam} {W : WX} {e : Expr}
end
end DL
namespace DL
open PySem PySem.Spec L2
abbrev DSpC := Dl → Rg → (SD → Dl → Rg → Prop) → XQ → Prop
section
variable {K : PySem.W.Frag} {B : Bs} {F H F' H' : Hp} {σ τ : St} {δ α : Dl} {G0 Gr G : Rg} {vs : List V} {xs : List D}
end
section
variable {Φ : Fam} {W : WX} {k j : Nat} {x : Str} {ps : List Str} {ds : DSpC} {e : Expr} {es : List Expr} {p pos : Pos}
def wFnC (ds : DSpC) (w : WLG) : WEG := fun δ G Q E => w δ G (fun xs δ1 G1 => ∃ G0 Gr, G1.Perm (G0 ++ Gr) ∧ ds (argsD xs) G0 (fun sd _ G2 => (∀ a ∈ G0.map (·.1), a ∈ G2.map (·.1)) ∧ ((∀ a ∈ G2.map (·.1), a ∉ Gr.map (·.1)) → Q (.d sd.fz) δ1 (G2 ++ Gr))) (fun C f y _ => E C f y δ1)) E
def wOpG (s : S2) (w1 w2 : WEG) : WEG := fun δ G Q E => w1 δ G (fun x δ1 G1 => w2 δ1 G1 (fun y δ2 G2 => s x.fz y.fz (fun sd => Q sd δ2 G2)) E) E
end
end DL
namespace Hd
open PySem PySem.Spec L2 DL He
open PyProof.Rows (envOfC)
section
variable {P : Program} {w : World} {K : PySem.W.Frag} {mg : Str → Option Value} {base : Heap}
variable {x qual : Str} {st : Stmt} {dvs : List V} {f : Addr} {fd : FuncData} {N ps : List Str}
end
end Hd
namespace Sp
open PySem L2 DL
def ws_l_pump_b1 : WS :=
  (wSeq (wSet 4 (wBin sMod (fO (eF (wCall sToInt (fO (eF (wBin sAdd (fO (eF (wBin sAdd (fO (eF (wBin sAdd (fO (eF (wBin sMul (oVar 4) (fO (wC (.int 46649)))))) (fO (eF (wBin sMul (oVar 7) (fO (wC (.int 709))))))))) (fO (eF (wBin sMul (fO (wC (.int 1009))) (oVar 1))))))) (fO (wC (.int 31))))))))) (fO (wC (.int 2147483137)))))
  (wSeq (wSet 5 (wBin sMod (fO (eF (wCall sToInt (fO (eF (wBin sAdd (fO (eF (wBin sAdd (fO (eF (wBin sMul (oVar 5) (oVar 5)))) (fO (eF (wBin sMul (fO (wC (.int 40961))) (oVar 7))))))) (fO (wC (.int 7001))))))))) (fO (wC (.int 2147483123)))))
  (wSet 6 (wBin sAdd (fO (eF (wBin sMul (oVar 6) (fO (wC (.int 2147483122)))))) (fO (eF (wBin sMod (fO (eF (wCall sToInt (fO (eF (wBin sAdd (fO (eF (wBin sMul (oVar 4) (oVar 5)))) (fO (eF (wBin sMul (fO (wC (.int 29))) (oVar 7)))))))))) (fO (wC (.int 2147483122))))))))))
def ws_l_pump_t6 : WS :=
  (wRet (wLst (wCons (wVar 6) wNil)))
def ws_l_pump_t5 : WS :=
  (wSeq (wFor (wiRng1 (wCons (wC (.int 200)) wNil)) (wgN 7) (ws_l_pump_b1)) (ws_l_pump_t6))
def ws_l_pump_t4 : WS :=
  (wSeq (wSet 6 (fS (wC (.int 0)))) (ws_l_pump_t5))
def ws_l_pump_t3 : WS :=
  (wSeq (wPar 4 5 (wTwo (wBin sMod (fO (eF (wCall sToInt (fO (eF (wBin sAdd (oVar 2) (fO (eF (wBin sMul (fO (wC (.int 5))) (oVar 1)))))))))) (fO (wC (.int 2147483137)))) (wBin sMod (fO (eF (wCall sToInt (oVar 2)))) (fO (wC (.int 2147483123)))))) (ws_l_pump_t4))
def ws_l_pump_t2 : WS :=
  (wSeq (wIf (wB (wBin (sGe) (oVar 2) (fO (eF (wBin sPow (fO (wC (.int 10))) (fO (wC (.int 18)))))))) (wSeq (wSet 3 (wBin sMul (fO (eF (wBin sMul (fO (eF (wBin sMul (fO (eF (wBin sPow (fO (wC (.int 10))) (fO (wC (.int 60)))))) (fO (eF (wBin sPow (fO (wC (.int 10))) (fO (wC (.int 60))))))))) (fO (eF (wBin sPow (fO (wC (.int 10))) (fO (wC (.int 60))))))))) (fO (eF (wBin sPow (fO (wC (.int 10))) (fO (wC (.int 60))))))))
  (wRet (wLst (wCons (eF (wBin sMod (fO (eF (wCall sToInt (fO (eF (wBin sSub (oVar 2) (fO (eF (wBin sPow (fO (wC (.int 10))) (fO (wC (.int 18)))))))))))) (fO (eF (wBin sMul (fO (eF (wBin sMul (oVar 3) (oVar 3)))) (oVar 3)))))) wNil)))) wNext) (ws_l_pump_t3))
def ws_l_pump_t1 : WS :=
  (wSeq (wIf (wB (wBin (sLt) (oVar 1) (fO (eF (wCall sLen (oVar 0)))))) (wSet 2 (wBin sIx (oVar 0) (oVar 1))) wNext) (ws_l_pump_t2))
def ws_l_pump : WS :=
  (wSeq (wSet 2 (wBin sAdd (fO (eF (wBin sMul (fO (wC (.int 19))) (oVar 1)))) (fO (wC (.int 5))))) (ws_l_pump_t1))
abbrev N_l_pump : List Str := ["_law_script", "_law_at", "_law_cell", "_law_deep", "_law_near", "_law_far", "_law_full", "_law_turn"]
def ws_l_cup_t2 : WS :=
  (wRet (fS (wVar 2)))
def ws_l_cup_t1 : WS :=
  (wSeq (wPut 0 (eF (wBin sDiv (fO (eF (wBin sIx (oVar 0) (fO (wC (.int 0)))))) (oVar 1))) (wC (.int 0))) (ws_l_cup_t2))
def ws_l_cup : WS :=
  (wSeq (wSet 2 (wBin sMod (fO (eF (wCall sToInt (fO (eF (wBin sIx (oVar 0) (fO (wC (.int 0))))))))) (oVar 1))) (ws_l_cup_t1))
abbrev N_l_cup : List Str := ["_law_pump_here", "_law_many", "_law_digit"]
end Sp
namespace DL
open PySem PySem.Spec L2
section
variable {Φ : Fam} {W : WX} {a b e i : Expr} {rest : List Expr} {pos : Pos}
def asBG (Q : Bool → Dl → Rg → Prop) : SD → Dl → Rg → Prop := fun sd δ G => match sd with
  | .d (.bl k) => Q k δ G
  | _ => False
def wBG (w : WEG) : WTG := fun δ G Q E => w δ G (asBG Q) E
def wNotG (w : WTG) : WTG := fun δ G Q E => w δ G (fun b δ' G' => Q (!b) δ' G') E
def DWG (Φ : Fam) (W : WX) (e : Expr) (w : WTG) : Prop :=
  ∃ t, (∀ i, PW (Φ.X i) e t) ∧ ∀ (B : Bs) (F H : Hp) (σ : St) (δ : Dl) (G : Rg) (Q : Bool → Dl → Rg → Prop) (E : XQ) (Qh : Bool → Hp → Prop), RB Φ.K B F H σ δ → RgOk Φ.K B F H σ δ G → w δ G Q E →
    (∀ b F' H' δ' G', RB Φ.K B F' H' σ δ' → RgOk Φ.K B F' H' σ δ' G' → Q b δ' G' → Qh b H') → XL Φ.K B W σ E → t σ H Qh
def wOrG (w u : WTG) : WTG := fun δ G Q E => w δ G (fun b δ' G' => if b = true then Q true δ' G' else u δ' G' Q E) E
theorem DWG.t {w : WTG} (h : DWG Φ W e w) : DTG Φ W e w := by
  obtain ⟨t, h1, h2⟩ := h
  exact ⟨_, fun i => (h1 i).pt, h2⟩
def wPutG (wo wi we : WEG) : WSG := fun M E δ G => we δ G (fun sd δ1 G1 => wo δ1 G1 (fun so δ2 G2 => match so with
  | .d (.vv (.ref a)) => wi δ2 G2 (fun si δ3 G3 => ∃ (n : Int) (Ga Gb : Rg) (xs : List D) (j : Nat), si = .d (.int n) ∧ G3 = Ga ++ (a, xs) :: Gb ∧ ixN xs.length n = some j ∧ M.nx δ3 (Ga ++ (a, xs.set j sd.fz) :: Gb)) E
  | _ => False) E) E
end
def wOwnG (n : Nat) (w : WSG) : WSG := fun M E δ G => w { M with nx := fun δ1 G1 => match δ1[n]? with
  | some (some (.d (.vv (.ref a)))) => ∃ xs G2, G1.Perm ((a, xs) :: G2) ∧ M.nx (δ1.set n (some (.o (.l xs)))) G2
  | _ => False } E δ G
section
variable {X : Cx} {k : Nat} {x : Str} {ps : List Str} {sp : Sp} {f : Addr} {fd : FuncData} {p pos : Pos}
theorem pe_cS0 {CX : CXT} {E : St → XK} (F : FnOk X.prog X.w X.K X.mg X.base CX k f fd ps sp) (hr : Room k X.A) (hg : Gl X x) (hm : X.mg x = some (.ref f)) (hk : PySem.W.keepIn X.K (.ref f) = true) (hb : Binds X.K fd ps []) (hx : ∀ σ, PassesAt CX X σ (E σ)) (hdb : (x == ("__debug__" : Str)) = false) :
    PE X (.Call (.Name x p) [] [] pos) (tCallS sp E tNil) :=
  ⟨fun pins s σ H Q I h => wpAny_Call_Name_kw (ld_glob I hg hm (PySem.W.callWith_K0 I.kIn hk (run_fnS (us := []) F hr hb (hx σ) I .nil h)) hdb)⟩
end
section
variable {Φ : Fam} {W : WX} {k j : Nat} {x : Str} {ps : List Str} {ds : DSp} {p pos : Pos}
theorem c_call0 (C : Cz Φ W k) (F : ∀ i, IsFn (Φ.X i).prog (Φ.X i).w (Φ.X i).K (Φ.X i).mg (Φ.X i).base x j ps ds) (hj : j ≤ k := by decide)
    (hg : ∀ i, Gl (Φ.X i) x := by intro _; rfl) (hdb : (x == ("__debug__" : Str)) = false := by decide) : DE Φ W (.Call (.Name x p) [] [] pos) (wFn ds wNil) := by
  refine ⟨tCallS (toSp Φ.K ds) (fun σ => L2.WE W σ) tNil, fun i => ?_, fun B F H σ δ Q E Qh r hw pp xl => ?_⟩
  · obtain ⟨f, fd, g1, g2, g3, g4⟩ := F i
    rw [← Φ.hK i]
    exact pe_cS0 g4 (C.rm hj i) (hg i) g1 g2 g3 (E := fun σ => L2.WE W σ) (fun σ => passAt (C.tk i) σ) hdb
  · refine ⟨F, [], argsD [], _, _, r.args .nil, hw, fun v F2 H2 sd α' r2 sr q2 => ?_, fun F2 H2 α' C dd f v y r2 hd hz rep q2 => ?_⟩
    · obtain ⟨r3, s3⟩ := r.back r2
      exact pp v F2 H2 sd δ r3 s3 (SR.back r r3 s3 sr) q2
    · obtain ⟨r3, s3⟩ := r.back r2
      exact xl F2 H2 δ C dd f v y r3 hd (r.hnone hz) rep q2
end
end DL
namespace DL
open PySem PySem.Spec L2
section
variable {Φ : Fam} {W : WX} {k j : Nat} {x : Str} {ps : List Str} {ds : DSpG} {e : Expr} {es : List Expr} {p pos : Pos}
end
def wFzG (n : Nat) (w : WSG) : WSG := fun M E δ G => w { M with nx := fun δ1 G1 => match δ1[n]? with
  | some (some (.o c)) => M.nx (δ1.set n (some (.d c.fz))) G1
  | _ => False } E δ G
def wCellS (n : Nat) (w : WSG) : WSG := fun M E δ G => w { M with nx := fun δ1 G1 => match δ1[n]? with
  | some (some (.o (.l xs))) => ∀ a, a ∉ G1.map (·.1) → M.nx (δ1.set n (some (.d (.vv (.ref a))))) ((a, xs) :: G1)
  | _ => False } E δ G
end DL
namespace DL
open PySem L2
variable {Φ : Fam}
def sRep : S2 := fun x y Q => match x, y with
  | .lst xs, .int n => (-(2 ^ 63) ≤ n ∧ n < 2 ^ 63 ∧ xs.length * n.toNat ≤ sizeLine) ∧ Q (.o (.l (List.replicate n.toNat xs).flatten))
  | _, _ => False
theorem repL_rep {K : PySem.W.Frag} {F : Hp} {vs : List V} {xs : List D} (h : RepL K F vs xs) : ∀ n : Nat, RepL K F (List.replicate n vs).flatten (List.replicate n xs).flatten
  | 0 => .nil
  | n + 1 => by
    rw [List.replicate_succ, List.replicate_succ, List.flatten_cons, List.flatten_cons]
    exact h.app (repL_rep h n)
theorem bin_rep : BinD Φ (binaryOp .Mult) sRep := by
  refine ⟨_, fun i => op_rep, fun B F H σ δ x y v u Q Qh r hx hy hs p => ?_⟩
  unfold sRep at hs
  split at hs
  · rename_i xs n
    obtain ⟨a, vs, rfl, h1, h2⟩ := hx.lst r.sub
    obtain rfl := hy.int
    exact ⟨_, _, _, rfl, rfl, h1, hs.1.1, hs.1.2.1, by rw [h2.len]; exact hs.1.2.2, p.lst r (repL_rep h2 n.toNat) hs.2⟩
  · exact hs.elim
end DL
namespace Sp
end Sp
namespace DL
open PySem PySem.Spec L2
section
variable {Φ : Fam} {W : WX} {body : List Stmt} {pos : Pos}
def wAndV (w u : WEG) : WEG := fun δ G Q E => w δ G (fun sd δ1 G1 => ∃ b, sd.fz = .bl b ∧ if b = true then u δ1 G1 Q E else Q (.d (.bl false)) δ1 G1) E
end
end DL
namespace DL
open PySem PySem.Spec L2
section
variable {Φ : Fam} {W : WX} {e : Expr}
end
end DL
namespace DL
open PySem PySem.Spec L2
section
variable {Φ : Fam} {W : WX} {a b : Expr} {pos : Pos}
end
end DL
namespace DL
open PySem PySem.Spec L2
section
variable {Φ : Fam} {W : WX} {elt tg iter : Expr} {scope : Scope} {pos : Pos}
end
end DL
namespace Sp
open PySem L2 DL
def ws_l_placed_t1 (a_InvalidSight : Addr) (a_InvalidLook : Addr) (a_InvalidList : Addr) (a_InvalidNumber : Addr) (a_InvalidName : Addr) (a_Unknown : Addr) (a_InvalidText : Addr) (a_Late : Addr) : WS :=
  (wRet (wBin sAdd (oVar 1) (fO (eF (wLst (wCons (eF (fS (wMkV a_Late "value" (wCons (wVar 0) wNil)))) (wCons (eF (fS (wMkV a_InvalidText "spot" (wCons (wVar 0) wNil)))) (wCons (eF (fS (wMkV a_Unknown "which" (wCons (wVar 0) wNil)))) wNil))))))))
def ws_l_placed (a_InvalidSight : Addr) (a_InvalidLook : Addr) (a_InvalidList : Addr) (a_InvalidNumber : Addr) (a_InvalidName : Addr) (a_Unknown : Addr) (a_InvalidText : Addr) (a_Late : Addr) : WS :=
  (wSeq (wSet 1 (wLst (wCons (eF (fS (wMkV a_InvalidName "value" (wCons (wVar 0) wNil)))) (wCons (eF (fS (wMkV a_InvalidNumber "value" (wCons (wVar 0) wNil)))) (wCons (eF (fS (wMkV a_InvalidList "value" (wCons (wVar 0) wNil)))) (wCons (eF (fS (wMkV a_InvalidLook "value" (wCons (wVar 0) wNil)))) (wCons (eF (fS (wMkV a_InvalidSight "value" (wCons (wVar 0) wNil)))) wNil))))))) (ws_l_placed_t1 a_InvalidSight a_InvalidLook a_InvalidList a_InvalidNumber a_InvalidName a_Unknown a_InvalidText a_Late))
abbrev N_l_placed : List Str := ["_law_thing", "_law_found"]
def ws_l_named_t1 (a_InvalidLook : Addr) (a_InvalidList : Addr) (a_InvalidNumber : Addr) (a_InvalidName : Addr) (a_Unknown : Addr) (a_InvalidText : Addr) (a_Late : Addr) (a_InvalidSight : Addr) : WS :=
  (wRet (wBin sAdd (oVar 1) (fO (eF (wLst (wCons (eF (fS (wMkV a_InvalidSight "value" (wCons (wVar 0) wNil)))) (wCons (eF (fS (wMkV a_Late "value" (wCons (wVar 0) wNil)))) (wCons (eF (fS (wMkV a_InvalidText "spot" (wCons (wVar 0) wNil)))) (wCons (eF (fS (wMkV a_Unknown "which" (wCons (wVar 0) wNil)))) wNil)))))))))
def ws_l_named (a_InvalidLook : Addr) (a_InvalidList : Addr) (a_InvalidNumber : Addr) (a_InvalidName : Addr) (a_Unknown : Addr) (a_InvalidText : Addr) (a_Late : Addr) (a_InvalidSight : Addr) : WS :=
  (wSeq (wSet 1 (wLst (wCons (eF (fS (wMkV a_InvalidName "value" (wCons (wVar 0) wNil)))) (wCons (eF (fS (wMkV a_InvalidNumber "value" (wCons (wVar 0) wNil)))) (wCons (eF (fS (wMkV a_InvalidList "value" (wCons (wVar 0) wNil)))) (wCons (eF (fS (wMkV a_InvalidLook "value" (wCons (wVar 0) wNil)))) wNil)))))) (ws_l_named_t1 a_InvalidLook a_InvalidList a_InvalidNumber a_InvalidName a_Unknown a_InvalidText a_Late a_InvalidSight))
abbrev N_l_named : List Str := ["_law_one", "_law_found"]
def ws_l_bare_t1 (a_InvalidSight : Addr) (a_InvalidLook : Addr) (a_InvalidList : Addr) (a_InvalidNumber : Addr) (a_InvalidName : Addr) (a_Unknown : Addr) (a_InvalidText : Addr) (a_Late : Addr) : WS :=
  (wRet (wBin sAdd (oVar 0) (fO (eF (wLst (wCons (eF (fS (wMkV0 a_Late "value"))) (wCons (eF (fS (wMkV0 a_InvalidText "spot"))) (wCons (eF (fS (wMkV0 a_Unknown "which"))) wNil))))))))
def ws_l_bare (a_InvalidSight : Addr) (a_InvalidLook : Addr) (a_InvalidList : Addr) (a_InvalidNumber : Addr) (a_InvalidName : Addr) (a_Unknown : Addr) (a_InvalidText : Addr) (a_Late : Addr) : WS :=
  (wSeq (wSet 0 (wLst (wCons (eF (fS (wMkV0 a_InvalidName "value"))) (wCons (eF (fS (wMkV0 a_InvalidNumber "value"))) (wCons (eF (fS (wMkV0 a_InvalidList "value"))) (wCons (eF (fS (wMkV0 a_InvalidLook "value"))) (wCons (eF (fS (wMkV0 a_InvalidSight "value"))) wNil))))))) (ws_l_bare_t1 a_InvalidSight a_InvalidLook a_InvalidList a_InvalidNumber a_InvalidName a_Unknown a_InvalidText a_Late))
abbrev N_l_bare : List Str := ["_law_found"]
def ws_l_fields (a_InvalidName : Addr) (a_InvalidNumber : Addr) (a_InvalidList : Addr) (a_InvalidLook : Addr) (a_InvalidSight : Addr) (a_Late : Addr) (a_Unknown : Addr) (a_InvalidText : Addr) : WS :=
  (wRet (wBin sAdd (fO (eF (wLc (wiSeq (eF (wCut (oVar 0) wNoP (wSoP (wC (.int 6)))))) (wgN 1) wYes (eF (fS (wErrF [a_InvalidName, a_InvalidNumber, a_InvalidList, a_InvalidLook, a_InvalidSight, a_Late] "value" (wVar 1)))) [1]))) (fO (eF (wLst (wCons (eF (fS (wErrF [a_InvalidText] "spot" (eF (wBin sIx (oVar 0) (fO (wC (.int 6)))))))) (wCons (eF (fS (wErrF [a_Unknown] "which" (eF (wBin sIx (oVar 0) (fO (wC (.int 7)))))))) wNil)))))))
abbrev N_l_fields : List Str := ["_law_errors", "_law_error"]
def ws_l_kinds_t2 (a_InvalidName : Addr) (a_InvalidNumber : Addr) (a_InvalidList : Addr) (a_InvalidLook : Addr) (a_InvalidSight : Addr) (a_Late : Addr) (a_InvalidText : Addr) (a_Unknown : Addr) : WS :=
  (wRet (wBin sAdd (oVar 1) (fO (eF (wLst (wCons (eF (wErrIs [a_InvalidName, a_InvalidNumber, a_InvalidList, a_InvalidLook, a_InvalidSight, a_Late, a_InvalidText, a_Unknown] (fun C => decide (C = a_InvalidText)) (wVar 0))) (wCons (eF (wErrIs [a_InvalidName, a_InvalidNumber, a_InvalidList, a_InvalidLook, a_InvalidSight, a_Late, a_InvalidText, a_Unknown] (fun C => decide (C = a_Unknown)) (wVar 0))) wNil)))))))
def ws_l_kinds_t1 (a_InvalidName : Addr) (a_InvalidNumber : Addr) (a_InvalidList : Addr) (a_InvalidLook : Addr) (a_InvalidSight : Addr) (a_Late : Addr) (a_InvalidText : Addr) (a_Unknown : Addr) : WS :=
  (wSeq (wSet 1 (wBin sAdd (oVar 1) (fO (eF (wLst (wCons (eF (wErrIs [a_InvalidName, a_InvalidNumber, a_InvalidList, a_InvalidLook, a_InvalidSight, a_Late, a_InvalidText, a_Unknown] (fun C => decide (C = a_InvalidLook)) (wVar 0))) (wCons (eF (wErrIs [a_InvalidName, a_InvalidNumber, a_InvalidList, a_InvalidLook, a_InvalidSight, a_Late, a_InvalidText, a_Unknown] (fun C => decide (C = a_InvalidSight)) (wVar 0))) (wCons (eF (wErrIs [a_InvalidName, a_InvalidNumber, a_InvalidList, a_InvalidLook, a_InvalidSight, a_Late, a_InvalidText, a_Unknown] (fun C => decide (C = a_Late)) (wVar 0))) wNil)))))))) (ws_l_kinds_t2 a_InvalidName a_InvalidNumber a_InvalidList a_InvalidLook a_InvalidSight a_Late a_InvalidText a_Unknown))
def ws_l_kinds (a_InvalidName : Addr) (a_InvalidNumber : Addr) (a_InvalidList : Addr) (a_InvalidLook : Addr) (a_InvalidSight : Addr) (a_Late : Addr) (a_InvalidText : Addr) (a_Unknown : Addr) : WS :=
  (wSeq (wSet 1 (wLst (wCons (eF (wErrIs [a_InvalidName, a_InvalidNumber, a_InvalidList, a_InvalidLook, a_InvalidSight, a_Late, a_InvalidText, a_Unknown] (fun C => decide (C = a_InvalidName)) (wVar 0))) (wCons (eF (wErrIs [a_InvalidName, a_InvalidNumber, a_InvalidList, a_InvalidLook, a_InvalidSight, a_Late, a_InvalidText, a_Unknown] (fun C => decide (C = a_InvalidNumber)) (wVar 0))) (wCons (eF (wErrIs [a_InvalidName, a_InvalidNumber, a_InvalidList, a_InvalidLook, a_InvalidSight, a_Late, a_InvalidText, a_Unknown] (fun C => decide (C = a_InvalidList)) (wVar 0))) wNil))))) (ws_l_kinds_t1 a_InvalidName a_InvalidNumber a_InvalidList a_InvalidLook a_InvalidSight a_Late a_InvalidText a_Unknown))
abbrev N_l_kinds : List Str := ["_law_error", "_law_found"]
def ws_law_2_gb1 (ds_l_pump : DSp) (ds_l_cup : DSp) (ds_l_named : DSp) (ds_l_placed : DSp) (ds_l_bare : DSp) (ds_l_fields : DSp) (ds_l_kinds : DSp) (a_InvalidName : Addr) (a_InvalidNumber : Addr) (a_InvalidList : Addr) (a_InvalidLook : Addr) (a_InvalidSight : Addr) (a_Late : Addr) (a_InvalidText : Addr) (a_Unknown : Addr) (a_TopsError : Addr) : WSG :=
  (wIfG (wLtT (wB (wBin (sEqX true) (fO (eF (wFn ds_l_fields (wCons (wVar 8) wNil)))) (fO (eF (wBin sRep (fO (eF (wLst (wCons (wVar 2) wNil)))) (fO (wC (.int 8))))))))) (wLf (wRet (fS (wC (.bl false))))) wNextG)
def ws_law_2_b1 (ds_l_pump : DSp) (ds_l_cup : DSp) (ds_l_named : DSp) (ds_l_placed : DSp) (ds_l_bare : DSp) (ds_l_fields : DSp) (ds_l_kinds : DSp) (a_InvalidName : Addr) (a_InvalidNumber : Addr) (a_InvalidList : Addr) (a_InvalidLook : Addr) (a_InvalidSight : Addr) (a_Late : Addr) (a_InvalidText : Addr) (a_Unknown : Addr) (a_TopsError : Addr) : WS :=
  (wIf (wOr (wB (wBin (sEqX true) (fO (eF (wFn ds_l_fields (wCons (eF (wFn ds_l_placed (wCons (wVar 9) wNil))) wNil)))) (fO (eF (wBin sRep (fO (eF (wLst (wCons (wVar 9) wNil)))) (fO (wC (.int 8)))))))) (wB (wBin (sEqX true) (fO (eF (wFn ds_l_fields (wCons (eF (wFn ds_l_named (wCons (wVar 9) wNil))) wNil)))) (fO (eF (wBin sRep (fO (eF (wLst (wCons (wVar 9) wNil)))) (fO (wC (.int 8))))))))) (wRet (fS (wC (.bl false)))) wNext)
def ws_law_2_b2 (ds_l_pump : DSp) (ds_l_cup : DSp) (ds_l_named : DSp) (ds_l_placed : DSp) (ds_l_bare : DSp) (ds_l_fields : DSp) (ds_l_kinds : DSp) (a_InvalidName : Addr) (a_InvalidNumber : Addr) (a_InvalidList : Addr) (a_InvalidLook : Addr) (a_InvalidSight : Addr) (a_Late : Addr) (a_InvalidText : Addr) (a_Unknown : Addr) (a_TopsError : Addr) : WS :=
  (wSeq (wIf (wOr (wNot (wB (wErrIs [a_InvalidName, a_InvalidNumber, a_InvalidList, a_InvalidLook, a_InvalidSight, a_Late, a_InvalidText, a_Unknown] (fun _ => true) (eF (wBin sIx (oVar 8) (oVar 10)))))) (wNot (wB (wErrIs [a_InvalidName, a_InvalidNumber, a_InvalidList, a_InvalidLook, a_InvalidSight, a_Late, a_InvalidText, a_Unknown] (fun _ => true) (eF (wBin sIx (oVar 8) (oVar 10))))))) (wRet (fS (wC (.bl false)))) wNext)
  (wIf (wB (wBin (sEqX true) (fO (eF (wFn ds_l_kinds (wCons (eF (wBin sIx (oVar 8) (oVar 10))) wNil)))) (fO (eF (wLc (wiRng1 (wCons (wC (.int 8)) wNil)) (wgN 11) wYes (eF (wBin (sEqX false) (oVar 11) (oVar 10))) [11]))))) (wRet (fS (wC (.bl false)))) wNext))
def ws_law_2_b3 (ds_l_pump : DSp) (ds_l_cup : DSp) (ds_l_named : DSp) (ds_l_placed : DSp) (ds_l_bare : DSp) (ds_l_fields : DSp) (ds_l_kinds : DSp) (a_InvalidName : Addr) (a_InvalidNumber : Addr) (a_InvalidList : Addr) (a_InvalidLook : Addr) (a_InvalidSight : Addr) (a_Late : Addr) (a_InvalidText : Addr) (a_Unknown : Addr) (a_TopsError : Addr) : WS :=
  (wFor (wiRng1 (wCons (wC (.int 8)) wNil)) (wgN 10) (ws_law_2_b2 ds_l_pump ds_l_cup ds_l_named ds_l_placed ds_l_bare ds_l_fields ds_l_kinds a_InvalidName a_InvalidNumber a_InvalidList a_InvalidLook a_InvalidSight a_Late a_InvalidText a_Unknown a_TopsError))
def ws_law_2_t11 (ds_l_pump : DSp) (ds_l_cup : DSp) (ds_l_named : DSp) (ds_l_placed : DSp) (ds_l_bare : DSp) (ds_l_fields : DSp) (ds_l_kinds : DSp) (a_InvalidName : Addr) (a_InvalidNumber : Addr) (a_InvalidList : Addr) (a_InvalidLook : Addr) (a_InvalidSight : Addr) (a_Late : Addr) (a_InvalidText : Addr) (a_Unknown : Addr) (a_TopsError : Addr) : WSG :=
  (wLf (wRet (fS (wC (.bl true)))))
def ws_law_2_t10 (ds_l_pump : DSp) (ds_l_cup : DSp) (ds_l_named : DSp) (ds_l_placed : DSp) (ds_l_bare : DSp) (ds_l_fields : DSp) (ds_l_kinds : DSp) (a_InvalidName : Addr) (a_InvalidNumber : Addr) (a_InvalidList : Addr) (a_InvalidLook : Addr) (a_InvalidSight : Addr) (a_Late : Addr) (a_InvalidText : Addr) (a_Unknown : Addr) (a_TopsError : Addr) : WSG :=
  (wSeqG (wLf (wFor (wiSeq (eF (wLst (wCons (wVar 4) (wCons (wVar 5) (wCons (wVar 6) (wCons (wVar 7) wNil))))))) (wgN 8) (ws_law_2_b3 ds_l_pump ds_l_cup ds_l_named ds_l_placed ds_l_bare ds_l_fields ds_l_kinds a_InvalidName a_InvalidNumber a_InvalidList a_InvalidLook a_InvalidSight a_Late a_InvalidText a_Unknown a_TopsError))) (ws_law_2_t11 ds_l_pump ds_l_cup ds_l_named ds_l_placed ds_l_bare ds_l_fields ds_l_kinds a_InvalidName a_InvalidNumber a_InvalidList a_InvalidLook a_InvalidSight a_Late a_InvalidText a_Unknown a_TopsError))
def ws_law_2_t9 (ds_l_pump : DSp) (ds_l_cup : DSp) (ds_l_named : DSp) (ds_l_placed : DSp) (ds_l_bare : DSp) (ds_l_fields : DSp) (ds_l_kinds : DSp) (a_InvalidName : Addr) (a_InvalidNumber : Addr) (a_InvalidList : Addr) (a_InvalidLook : Addr) (a_InvalidSight : Addr) (a_Late : Addr) (a_InvalidText : Addr) (a_Unknown : Addr) (a_TopsError : Addr) : WSG :=
  (wSeqG (wLf (wFor (wiSeq (eF (wLst (wCons (eF (wTup wNil)) (wCons (eF (wTup (wCons (wC (.int 1)) (wCons (wC (.int 2)) wNil)))) (wCons (eF (wTup (wCons (wC (.str "a")) (wCons (wC .non) wNil)))) wNil)))))) (wgN 9) (ws_law_2_b1 ds_l_pump ds_l_cup ds_l_named ds_l_placed ds_l_bare ds_l_fields ds_l_kinds a_InvalidName a_InvalidNumber a_InvalidList a_InvalidLook a_InvalidSight a_Late a_InvalidText a_Unknown a_TopsError))) (ws_law_2_t10 ds_l_pump ds_l_cup ds_l_named ds_l_placed ds_l_bare ds_l_fields ds_l_kinds a_InvalidName a_InvalidNumber a_InvalidList a_InvalidLook a_InvalidSight a_Late a_InvalidText a_Unknown a_TopsError))
def ws_law_2_t8 (ds_l_pump : DSp) (ds_l_cup : DSp) (ds_l_named : DSp) (ds_l_placed : DSp) (ds_l_bare : DSp) (ds_l_fields : DSp) (ds_l_kinds : DSp) (a_InvalidName : Addr) (a_InvalidNumber : Addr) (a_InvalidList : Addr) (a_InvalidLook : Addr) (a_InvalidSight : Addr) (a_Late : Addr) (a_InvalidText : Addr) (a_Unknown : Addr) (a_TopsError : Addr) : WSG :=
  (wSeqG (wIfG (wLtT (wOr (wB (wBin (sEqX true) (fO (eF (wFn ds_l_fields (wCons (wVar 6) wNil)))) (fO (eF (wBin sRep (fO (eF (wLst (wCons (wVar 3) wNil)))) (fO (wC (.int 8)))))))) (wB (wBin (sEqX true) (fO (eF (wFn ds_l_fields (wCons (wVar 7) wNil)))) (fO (eF (wBin sRep (fO (eF (wLst (wCons (wC .non) wNil)))) (fO (wC (.int 8)))))))))) (wLf (wRet (fS (wC (.bl false))))) wNextG) (ws_law_2_t9 ds_l_pump ds_l_cup ds_l_named ds_l_placed ds_l_bare ds_l_fields ds_l_kinds a_InvalidName a_InvalidNumber a_InvalidList a_InvalidLook a_InvalidSight a_Late a_InvalidText a_Unknown a_TopsError))
def ws_law_2_t7 (ds_l_pump : DSp) (ds_l_cup : DSp) (ds_l_named : DSp) (ds_l_placed : DSp) (ds_l_bare : DSp) (ds_l_fields : DSp) (ds_l_kinds : DSp) (a_InvalidName : Addr) (a_InvalidNumber : Addr) (a_InvalidList : Addr) (a_InvalidLook : Addr) (a_InvalidSight : Addr) (a_Late : Addr) (a_InvalidText : Addr) (a_Unknown : Addr) (a_TopsError : Addr) : WSG :=
  (wSeqG (wIfG (wLtT (wOr (wB (wBin (sEqX true) (fO (eF (wFn ds_l_fields (wCons (wVar 4) wNil)))) (fO (eF (wBin sRep (fO (eF (wLst (wCons (wVar 2) wNil)))) (fO (wC (.int 8)))))))) (wB (wBin (sEqX true) (fO (eF (wFn ds_l_fields (wCons (wVar 5) wNil)))) (fO (eF (wBin sRep (fO (eF (wLst (wCons (wVar 2) wNil)))) (fO (wC (.int 8)))))))))) (wLf (wRet (fS (wC (.bl false))))) wNextG) (ws_law_2_t8 ds_l_pump ds_l_cup ds_l_named ds_l_placed ds_l_bare ds_l_fields ds_l_kinds a_InvalidName a_InvalidNumber a_InvalidList a_InvalidLook a_InvalidSight a_Late a_InvalidText a_Unknown a_TopsError))
def ws_law_2_t6 (ds_l_pump : DSp) (ds_l_cup : DSp) (ds_l_named : DSp) (ds_l_placed : DSp) (ds_l_bare : DSp) (ds_l_fields : DSp) (ds_l_kinds : DSp) (a_InvalidName : Addr) (a_InvalidNumber : Addr) (a_InvalidList : Addr) (a_InvalidLook : Addr) (a_InvalidSight : Addr) (a_Late : Addr) (a_InvalidText : Addr) (a_Unknown : Addr) (a_TopsError : Addr) : WSG :=
  (wSeqG (wDropG (wAppG (wBsE (fS (wVar 2))) (wBsE (fS (wC (.str "later")))))) (ws_law_2_t7 ds_l_pump ds_l_cup ds_l_named ds_l_placed ds_l_bare ds_l_fields ds_l_kinds a_InvalidName a_InvalidNumber a_InvalidList a_InvalidLook a_InvalidSight a_Late a_InvalidText a_Unknown a_TopsError))
def ws_law_2_t5 (ds_l_pump : DSp) (ds_l_cup : DSp) (ds_l_named : DSp) (ds_l_placed : DSp) (ds_l_bare : DSp) (ds_l_fields : DSp) (ds_l_kinds : DSp) (a_InvalidName : Addr) (a_InvalidNumber : Addr) (a_InvalidList : Addr) (a_InvalidLook : Addr) (a_InvalidSight : Addr) (a_Late : Addr) (a_InvalidText : Addr) (a_Unknown : Addr) (a_TopsError : Addr) : WSG :=
  (wSeqG (wForG (wiSeq (eF (wLst (wCons (wVar 4) (wCons (wVar 5) wNil))))) (wgN 8) (ws_law_2_gb1 ds_l_pump ds_l_cup ds_l_named ds_l_placed ds_l_bare ds_l_fields ds_l_kinds a_InvalidName a_InvalidNumber a_InvalidList a_InvalidLook a_InvalidSight a_Late a_InvalidText a_Unknown a_TopsError)) (ws_law_2_t6 ds_l_pump ds_l_cup ds_l_named ds_l_placed ds_l_bare ds_l_fields ds_l_kinds a_InvalidName a_InvalidNumber a_InvalidList a_InvalidLook a_InvalidSight a_Late a_InvalidText a_Unknown a_TopsError))
def ws_law_2_t4 (ds_l_pump : DSp) (ds_l_cup : DSp) (ds_l_named : DSp) (ds_l_placed : DSp) (ds_l_bare : DSp) (ds_l_fields : DSp) (ds_l_kinds : DSp) (a_InvalidName : Addr) (a_InvalidNumber : Addr) (a_InvalidList : Addr) (a_InvalidLook : Addr) (a_InvalidSight : Addr) (a_Late : Addr) (a_InvalidText : Addr) (a_Unknown : Addr) (a_TopsError : Addr) : WSG :=
  (wSeqG (wLf (wPar 6 7 (wTwo (wFn ds_l_placed (wCons (wVar 3) wNil)) (wFn ds_l_bare wNil)))) (ws_law_2_t5 ds_l_pump ds_l_cup ds_l_named ds_l_placed ds_l_bare ds_l_fields ds_l_kinds a_InvalidName a_InvalidNumber a_InvalidList a_InvalidLook a_InvalidSight a_Late a_InvalidText a_Unknown a_TopsError))
def ws_law_2_t3 (ds_l_pump : DSp) (ds_l_cup : DSp) (ds_l_named : DSp) (ds_l_placed : DSp) (ds_l_bare : DSp) (ds_l_fields : DSp) (ds_l_kinds : DSp) (a_InvalidName : Addr) (a_InvalidNumber : Addr) (a_InvalidList : Addr) (a_InvalidLook : Addr) (a_InvalidSight : Addr) (a_Late : Addr) (a_InvalidText : Addr) (a_Unknown : Addr) (a_TopsError : Addr) : WSG :=
  (wSeqG (wParG 4 5 (wConsG (wBsE (wFn ds_l_placed (wCons (wVar 2) wNil))) (wConsG (wBsE (wFn ds_l_named (wCons (wVar 2) wNil))) wNilG))) (ws_law_2_t4 ds_l_pump ds_l_cup ds_l_named ds_l_placed ds_l_bare ds_l_fields ds_l_kinds a_InvalidName a_InvalidNumber a_InvalidList a_InvalidLook a_InvalidSight a_Late a_InvalidText a_Unknown a_TopsError))
def ws_law_2_t2 (ds_l_pump : DSp) (ds_l_cup : DSp) (ds_l_named : DSp) (ds_l_placed : DSp) (ds_l_bare : DSp) (ds_l_fields : DSp) (ds_l_kinds : DSp) (a_InvalidName : Addr) (a_InvalidNumber : Addr) (a_InvalidList : Addr) (a_InvalidLook : Addr) (a_InvalidSight : Addr) (a_Late : Addr) (a_InvalidText : Addr) (a_Unknown : Addr) (a_TopsError : Addr) : WSG :=
  (wSeqG (wLf (wSet 3 (wBin sIx (fO (eF (wLst (wCons (wC (.str "")) (wCons (wC (.int 0)) (wCons (wC (.str "a")) (wCons (wC (.bl false)) (wCons (eF (wTup (wCons (wC (.int 1)) wNil))) (wCons (eF wNewD) (wCons (eF (wTup wNil)) (wCons (eF (wTup (wCons (wC (.int 1)) (wCons (wC (.int 2)) wNil)))) (wCons (eF (wTup (wCons (wC (.str "a")) (wCons (wC .non) (wCons (eF (wLst (wCons (wC (.int 0)) wNil))) wNil))))) wNil)))))))))))) (fO (eF (wFnP ds_l_cup 1 (wCons (wC (.int 9)) wNil))))))) (ws_law_2_t3 ds_l_pump ds_l_cup ds_l_named ds_l_placed ds_l_bare ds_l_fields ds_l_kinds a_InvalidName a_InvalidNumber a_InvalidList a_InvalidLook a_InvalidSight a_Late a_InvalidText a_Unknown a_TopsError))
def ws_law_2_t1 (ds_l_pump : DSp) (ds_l_cup : DSp) (ds_l_named : DSp) (ds_l_placed : DSp) (ds_l_bare : DSp) (ds_l_fields : DSp) (ds_l_kinds : DSp) (a_InvalidName : Addr) (a_InvalidNumber : Addr) (a_InvalidList : Addr) (a_InvalidLook : Addr) (a_InvalidSight : Addr) (a_Late : Addr) (a_InvalidText : Addr) (a_Unknown : Addr) (a_TopsError : Addr) : WSG :=
  (wSeqG (wSetG 2 (wNewG (wBsE (wLst (wCons (eF (wFnP ds_l_cup 1 (wCons (eF (wBin sPow (fO (wC (.int 10))) (fO (wC (.int 9))))) wNil))) (wCons (eF (wLst (wCons (wC (.str "x")) wNil))) wNil)))))) (ws_law_2_t2 ds_l_pump ds_l_cup ds_l_named ds_l_placed ds_l_bare ds_l_fields ds_l_kinds a_InvalidName a_InvalidNumber a_InvalidList a_InvalidLook a_InvalidSight a_Late a_InvalidText a_Unknown a_TopsError))
def ws_law_2 (ds_l_pump : DSp) (ds_l_cup : DSp) (ds_l_named : DSp) (ds_l_placed : DSp) (ds_l_bare : DSp) (ds_l_fields : DSp) (ds_l_kinds : DSp) (a_InvalidName : Addr) (a_InvalidNumber : Addr) (a_InvalidList : Addr) (a_InvalidLook : Addr) (a_InvalidSight : Addr) (a_Late : Addr) (a_InvalidText : Addr) (a_Unknown : Addr) (a_TopsError : Addr) : WS :=
  (wCl (wSeqG (wLf (wSet 1 (wFn ds_l_pump (wCons (wVar 0) (wCons (wC (.int 0)) wNil))))) (ws_law_2_t1 ds_l_pump ds_l_cup ds_l_named ds_l_placed ds_l_bare ds_l_fields ds_l_kinds a_InvalidName a_InvalidNumber a_InvalidList a_InvalidLook a_InvalidSight a_Late a_InvalidText a_Unknown a_TopsError)))
abbrev N_law_2 : List Str := ["_law_script", "_law_pump_here", "_law_one", "_law_other", "_law_placed_here", "_law_named_here", "_law_more", "_law_bare_here", "_law_errors", "_law_row", "_law_at", "_law_k"]
end Sp
namespace Lk01
open PySem L2 DL Sp
open PyProof.Rows (envOfC)
section
variable {P : Program} {w : World} {K : PySem.W.Frag} {mg : Str → Option Value} {base : Heap}
theorem sc_l_pump : FnScope N_l_pump ["_law_script", "_law_at"] (defScope st_l_pump) := ⟨rfl, rfl, rfl, by decide +kernel, rfl, by decide +kernel, by decide +kernel⟩
theorem der_l_pump (n_len : mg "len" = none) (n_int : mg "int" = none) (n_range : mg "range" = none) {f : Addr} {cdv : Value} {A : Around} {outer : List Env} {s : Shared} {H : Hp} {E : XK} (C : Cz (Fam.one (cxOf (L2.CX P w) P w K mg base N_l_pump "_law_pump" (defScope st_l_pump) f cdv A outer s H E)) (fun cls d _ H' => E cls d H') 0) :
    DSs (Fam.one (cxOf (L2.CX P w) P w K mg base N_l_pump "_law_pump" (defScope st_l_pump) f cdv A outer s H E)) (fun cls d _ H' => E cls d H') (defBody st_l_pump) (ws_l_pump) :=
  (dss_cons (ds_set 2 (de_bin bin_add (DF.o (DE.f (de_bin bin_mul (DF.o d_int) (ov 1)))) (DF.o d_int)) C.nd)
      (dss_cons (ds_if (dt_cmp bin_lt (ov 1) (DF.o (DE.f (de_callB cd_len (by intro _; rfl) (by intro _; exact n_len) (by decide +kernel) (ov 0)))) (by first | rfl | with_unfolding_all rfl)) (dss_one (ds_set 2 (de_ix ix_d (ov 0) (ov 1) (by intro _ _; rfl)) C.nd)) dss_nil)
      (dss_cons (ds_if (dt_cmp bin_ge (ov 2) (DF.o (DE.f (de_bin bin_pow (DF.o d_int) (DF.o d_int)))) (by first | rfl | with_unfolding_all rfl)) (dss_cons (ds_set 3 (de_bin bin_mul (DF.o (DE.f (de_bin bin_mul (DF.o (DE.f (de_bin bin_mul (DF.o (DE.f (de_bin bin_pow (DF.o d_int) (DF.o d_int)))) (DF.o (DE.f (de_bin bin_pow (DF.o d_int) (DF.o d_int))))))) (DF.o (DE.f (de_bin bin_pow (DF.o d_int) (DF.o d_int))))))) (DF.o (DE.f (de_bin bin_pow (DF.o d_int) (DF.o d_int))))) C.nd)
      (dss_one (ds_ret (de_lst (da_cons (DE.f (de_bin bin_mod (DF.o (DE.f (de_callTy cd_int (by intro _; rfl) (by intro _; exact n_int) (by decide +kernel) (DF.o (DE.f (de_bin bin_sub (ov 2) (DF.o (DE.f (de_bin bin_pow (DF.o d_int) (DF.o d_int)))))))))) (DF.o (DE.f (de_bin bin_mul (DF.o (DE.f (de_bin bin_mul (ov 3) (ov 3)))) (ov 3)))))) da_nil))))) dss_nil)
      (dss_cons (ds_par 4 5 C.calm C.nd (de_bin bin_mod (DF.o (DE.f (de_callTy cd_int (by intro _; rfl) (by intro _; exact n_int) (by decide +kernel) (DF.o (DE.f (de_bin bin_add (ov 2) (DF.o (DE.f (de_bin bin_mul (DF.o d_int) (ov 1)))))))))) (DF.o d_int)) (de_bin bin_mod (DF.o (DE.f (de_callTy cd_int (by intro _; rfl) (by intro _; exact n_int) (by decide +kernel) (ov 2)))) (DF.o d_int)) (by intro _; first | rfl | with_unfolding_all rfl | kernel_rfl))
      (dss_cons (ds_set 6 (DF.s d_int) C.nd)
      (dss_cons (ds_for C.hp C.calm (di_rng1 (da_cons d_int da_nil) (by intro _; exact n_range)) (dg_n 7 C.nd) (dss_cons (ds_set 4 (de_bin bin_mod (DF.o (DE.f (de_callTy cd_int (by intro _; rfl) (by intro _; exact n_int) (by decide +kernel) (DF.o (DE.f (de_bin bin_add (DF.o (DE.f (de_bin bin_add (DF.o (DE.f (de_bin bin_add (DF.o (DE.f (de_bin bin_mul (ov 4) (DF.o d_int)))) (DF.o (DE.f (de_bin bin_mul (ov 7) (DF.o d_int))))))) (DF.o (DE.f (de_bin bin_mul (DF.o d_int) (ov 1))))))) (DF.o d_int))))))) (DF.o d_int)) C.nd)
      (dss_cons (ds_set 5 (de_bin bin_mod (DF.o (DE.f (de_callTy cd_int (by intro _; rfl) (by intro _; exact n_int) (by decide +kernel) (DF.o (DE.f (de_bin bin_add (DF.o (DE.f (de_bin bin_add (DF.o (DE.f (de_bin bin_mul (ov 5) (ov 5)))) (DF.o (DE.f (de_bin bin_mul (DF.o d_int) (ov 7))))))) (DF.o d_int))))))) (DF.o d_int)) C.nd)
      (dss_one (ds_set 6 (de_bin bin_add (DF.o (DE.f (de_bin bin_mul (ov 6) (DF.o d_int)))) (DF.o (DE.f (de_bin bin_mod (DF.o (DE.f (de_callTy cd_int (by intro _; rfl) (by intro _; exact n_int) (by decide +kernel) (DF.o (DE.f (de_bin bin_add (DF.o (DE.f (de_bin bin_mul (ov 4) (ov 5)))) (DF.o (DE.f (de_bin bin_mul (DF.o d_int) (ov 7)))))))))) (DF.o d_int))))) C.nd)))))
      (dss_one (ds_ret (de_lst (da_cons (dv 6) da_nil))))))))))
theorem sc_l_cup : FnScope N_l_cup ["_law_pump_here", "_law_many"] (defScope st_l_cup) := ⟨rfl, rfl, rfl, by decide +kernel, rfl, by decide +kernel, by decide +kernel⟩
theorem der_l_cup (n_int : mg "int" = none) {f : Addr} {cdv : Value} {A : Around} {outer : List Env} {s : Shared} {H : Hp} {E : XK} (C : Cz (Fam.one (cxOf (L2.CX P w) P w K mg base N_l_cup "_law_cup" (defScope st_l_cup) f cdv A outer s H E)) (fun cls d _ H' => E cls d H') 0) :
    DSs (Fam.one (cxOf (L2.CX P w) P w K mg base N_l_cup "_law_cup" (defScope st_l_cup) f cdv A outer s H E)) (fun cls d _ H' => E cls d H') (defBody st_l_cup) (ws_l_cup) :=
  (dss_cons (ds_set 2 (de_bin bin_mod (DF.o (DE.f (de_callTy cd_int (by intro _; rfl) (by intro _; exact n_int) (by decide +kernel) (DF.o (DE.f (de_ix ix_d (ov 0) (DF.o d_int) (by intro _ _; rfl))))))) (ov 1)) C.nd)
      (dss_cons (ds_put 0 (DE.f (de_bin bin_div (DF.o (DE.f (de_ix ix_d (ov 0) (DF.o d_int) (by intro _ _; rfl)))) (ov 1))) d_int)
      (dss_one (ds_ret (DF.s (dv 2))))))
theorem sc_l_placed : FnScope N_l_placed ["_law_thing"] (defScope st_l_placed) := ⟨rfl, rfl, rfl, by decide +kernel, rfl, by decide +kernel, by decide +kernel⟩
theorem der_l_placed {a_InvalidSight : Addr} {a_InvalidLook : Addr} {a_InvalidList : Addr} {a_InvalidNumber : Addr} {a_InvalidName : Addr} {a_Unknown : Addr} {a_InvalidText : Addr} {a_Late : Addr} (ek_InvalidSight : IsErrK P K mg "InvalidSight" "value" a_InvalidSight) (ek_InvalidLook : IsErrK P K mg "InvalidLook" "value" a_InvalidLook) (ek_InvalidList : IsErrK P K mg "InvalidList" "value" a_InvalidList) (ek_InvalidNumber : IsErrK P K mg "InvalidNumber" "value" a_InvalidNumber) (ek_InvalidName : IsErrK P K mg "InvalidName" "value" a_InvalidName) (ek_Unknown : IsErrK P K mg "Unknown" "which" a_Unknown) (ek_InvalidText : IsErrK P K mg "InvalidText" "spot" a_InvalidText) (ek_Late : IsErrK P K mg "Late" "value" a_Late) {f : Addr} {cdv : Value} {A : Around} {outer : List Env} {s : Shared} {H : Hp} {E : XK} (C : Cz (Fam.one (cxOf (L2.CX P w) P w K mg base N_l_placed "_law_placed" (defScope st_l_placed) f cdv A outer s H E)) (fun cls d _ H' => E cls d H') 0) :
    DSs (Fam.one (cxOf (L2.CX P w) P w K mg base N_l_placed "_law_placed" (defScope st_l_placed) f cdv A outer s H E)) (fun cls d _ H' => E cls d H') (defBody st_l_placed) (ws_l_placed a_InvalidSight a_InvalidLook a_InvalidList a_InvalidNumber a_InvalidName a_Unknown a_InvalidText a_Late) :=
  (dss_cons (ds_set 1 (de_lst (da_cons (DE.f (DF.s (c_mkv C (by intro _; exact ek_InvalidName) (da_cons (dv 0) da_nil)))) (da_cons (DE.f (DF.s (c_mkv C (by intro _; exact ek_InvalidNumber) (da_cons (dv 0) da_nil)))) (da_cons (DE.f (DF.s (c_mkv C (by intro _; exact ek_InvalidList) (da_cons (dv 0) da_nil)))) (da_cons (DE.f (DF.s (c_mkv C (by intro _; exact ek_InvalidLook) (da_cons (dv 0) da_nil)))) (da_cons (DE.f (DF.s (c_mkv C (by intro _; exact ek_InvalidSight) (da_cons (dv 0) da_nil)))) da_nil)))))) C.nd)
      (dss_one (ds_ret (de_bin bin_add (ov 1) (DF.o (DE.f (de_lst (da_cons (DE.f (DF.s (c_mkv C (by intro _; exact ek_Late) (da_cons (dv 0) da_nil)))) (da_cons (DE.f (DF.s (c_mkv C (by intro _; exact ek_InvalidText) (da_cons (dv 0) da_nil)))) (da_cons (DE.f (DF.s (c_mkv C (by intro _; exact ek_Unknown) (da_cons (dv 0) da_nil)))) da_nil))))))))))
theorem sc_l_named : FnScope N_l_named ["_law_one"] (defScope st_l_named) := ⟨rfl, rfl, rfl, by decide +kernel, rfl, by decide +kernel, by decide +kernel⟩
theorem der_l_named {a_InvalidLook : Addr} {a_InvalidList : Addr} {a_InvalidNumber : Addr} {a_InvalidName : Addr} {a_Unknown : Addr} {a_InvalidText : Addr} {a_Late : Addr} {a_InvalidSight : Addr} (ek_InvalidLook : IsErrK P K mg "InvalidLook" "value" a_InvalidLook) (ek_InvalidList : IsErrK P K mg "InvalidList" "value" a_InvalidList) (ek_InvalidNumber : IsErrK P K mg "InvalidNumber" "value" a_InvalidNumber) (ek_InvalidName : IsErrK P K mg "InvalidName" "value" a_InvalidName) (ek_Unknown : IsErrK P K mg "Unknown" "which" a_Unknown) (ek_InvalidText : IsErrK P K mg "InvalidText" "spot" a_InvalidText) (ek_Late : IsErrK P K mg "Late" "value" a_Late) (ek_InvalidSight : IsErrK P K mg "InvalidSight" "value" a_InvalidSight) {f : Addr} {cdv : Value} {A : Around} {outer : List Env} {s : Shared} {H : Hp} {E : XK} (C : Cz (Fam.one (cxOf (L2.CX P w) P w K mg base N_l_named "_law_named" (defScope st_l_named) f cdv A outer s H E)) (fun cls d _ H' => E cls d H') 0) :
    DSs (Fam.one (cxOf (L2.CX P w) P w K mg base N_l_named "_law_named" (defScope st_l_named) f cdv A outer s H E)) (fun cls d _ H' => E cls d H') (defBody st_l_named) (ws_l_named a_InvalidLook a_InvalidList a_InvalidNumber a_InvalidName a_Unknown a_InvalidText a_Late a_InvalidSight) :=
  (dss_cons (ds_set 1 (de_lst (da_cons (DE.f (DF.s (c_mkvK C (by intro _; exact ek_InvalidName) (dk_cons (nm := some "value") (dv 0) dk_nil)))) (da_cons (DE.f (DF.s (c_mkvK C (by intro _; exact ek_InvalidNumber) (dk_cons (nm := some "value") (dv 0) dk_nil)))) (da_cons (DE.f (DF.s (c_mkvK C (by intro _; exact ek_InvalidList) (dk_cons (nm := some "value") (dv 0) dk_nil)))) (da_cons (DE.f (DF.s (c_mkvK C (by intro _; exact ek_InvalidLook) (dk_cons (nm := some "value") (dv 0) dk_nil)))) da_nil))))) C.nd)
      (dss_one (ds_ret (de_bin bin_add (ov 1) (DF.o (DE.f (de_lst (da_cons (DE.f (DF.s (c_mkvK C (by intro _; exact ek_InvalidSight) (dk_cons (nm := some "value") (dv 0) dk_nil)))) (da_cons (DE.f (DF.s (c_mkvK C (by intro _; exact ek_Late) (dk_cons (nm := some "value") (dv 0) dk_nil)))) (da_cons (DE.f (DF.s (c_mkvK C (by intro _; exact ek_InvalidText) (dk_cons (nm := some "spot") (dv 0) dk_nil)))) (da_cons (DE.f (DF.s (c_mkvK C (by intro _; exact ek_Unknown) (dk_cons (nm := some "which") (dv 0) dk_nil)))) da_nil)))))))))))
theorem sc_l_bare : FnScope N_l_bare [] (defScope st_l_bare) := ⟨rfl, rfl, rfl, by decide +kernel, rfl, by decide +kernel, by decide +kernel⟩
theorem der_l_bare {a_InvalidSight : Addr} {a_InvalidLook : Addr} {a_InvalidList : Addr} {a_InvalidNumber : Addr} {a_InvalidName : Addr} {a_Unknown : Addr} {a_InvalidText : Addr} {a_Late : Addr} (ek_InvalidSight : IsErrK P K mg "InvalidSight" "value" a_InvalidSight) (ek_InvalidLook : IsErrK P K mg "InvalidLook" "value" a_InvalidLook) (ek_InvalidList : IsErrK P K mg "InvalidList" "value" a_InvalidList) (ek_InvalidNumber : IsErrK P K mg "InvalidNumber" "value" a_InvalidNumber) (ek_InvalidName : IsErrK P K mg "InvalidName" "value" a_InvalidName) (ek_Unknown : IsErrK P K mg "Unknown" "which" a_Unknown) (ek_InvalidText : IsErrK P K mg "InvalidText" "spot" a_InvalidText) (ek_Late : IsErrK P K mg "Late" "value" a_Late) {f : Addr} {cdv : Value} {A : Around} {outer : List Env} {s : Shared} {H : Hp} {E : XK} (C : Cz (Fam.one (cxOf (L2.CX P w) P w K mg base N_l_bare "_law_bare" (defScope st_l_bare) f cdv A outer s H E)) (fun cls d _ H' => E cls d H') 0) :
    DSs (Fam.one (cxOf (L2.CX P w) P w K mg base N_l_bare "_law_bare" (defScope st_l_bare) f cdv A outer s H E)) (fun cls d _ H' => E cls d H') (defBody st_l_bare) (ws_l_bare a_InvalidSight a_InvalidLook a_InvalidList a_InvalidNumber a_InvalidName a_Unknown a_InvalidText a_Late) :=
  (dss_cons (ds_set 0 (de_lst (da_cons (DE.f (DF.s (c_mkv0 C (by intro _; exact ek_InvalidName)))) (da_cons (DE.f (DF.s (c_mkv0 C (by intro _; exact ek_InvalidNumber)))) (da_cons (DE.f (DF.s (c_mkv0 C (by intro _; exact ek_InvalidList)))) (da_cons (DE.f (DF.s (c_mkv0 C (by intro _; exact ek_InvalidLook)))) (da_cons (DE.f (DF.s (c_mkv0 C (by intro _; exact ek_InvalidSight)))) da_nil)))))) C.nd)
      (dss_one (ds_ret (de_bin bin_add (ov 0) (DF.o (DE.f (de_lst (da_cons (DE.f (DF.s (c_mkv0 C (by intro _; exact ek_Late)))) (da_cons (DE.f (DF.s (c_mkv0 C (by intro _; exact ek_InvalidText)))) (da_cons (DE.f (DF.s (c_mkv0 C (by intro _; exact ek_Unknown)))) da_nil))))))))))
theorem sc_l_fields : FnScope N_l_fields ["_law_errors"] (defScope st_l_fields) := ⟨rfl, rfl, rfl, by decide +kernel, rfl, by decide +kernel, by decide +kernel⟩
theorem der_l_fields {a_InvalidName : Addr} {a_InvalidNumber : Addr} {a_InvalidList : Addr} {a_InvalidLook : Addr} {a_InvalidSight : Addr} {a_Late : Addr} {a_Unknown : Addr} {a_InvalidText : Addr} (ef_value : ∀ C ∈ [a_InvalidName, a_InvalidNumber, a_InvalidList, a_InvalidLook, a_InvalidSight, a_Late], ∃ nm, IsErr P K mg nm "value" C) (ef_which : ∀ C ∈ [a_Unknown], ∃ nm, IsErr P K mg nm "which" C) (ef_spot : ∀ C ∈ [a_InvalidText], ∃ nm, IsErr P K mg nm "spot" C) {f : Addr} {cdv : Value} {A : Around} {outer : List Env} {s : Shared} {H : Hp} {E : XK} (C : Cz (Fam.one (cxOf (L2.CX P w) P w K mg base N_l_fields "_law_fields" (defScope st_l_fields) f cdv A outer s H E)) (fun cls d _ H' => E cls d H') 0) :
    DSs (Fam.one (cxOf (L2.CX P w) P w K mg base N_l_fields "_law_fields" (defScope st_l_fields) f cdv A outer s H E)) (fun cls d _ H' => E cls d H') (defBody st_l_fields) (ws_l_fields a_InvalidName a_InvalidNumber a_InvalidList a_InvalidLook a_InvalidSight a_Late a_Unknown a_InvalidText) :=
  (dss_one (ds_ret (de_bin bin_add (DF.o (DE.f (de_lc [("_law_error", 1)] C.calm C.nd (di_list (DE.f (de_cut (ov 0) dp_none (dp_some d_int)))) (by intro _; show BlkOk N_l_fields (defScope st_l_fields) _ _; exact ⟨rfl, by decide +kernel, by decide +kernel, by decide +kernel, by decide +kernel⟩) (dg_n 1 (C.blk _).nd) dts_nil (DE.f (DF.s (c_errf (fun _ => ef_value) (dv 1))))))) (DF.o (DE.f (de_lst (da_cons (DE.f (DF.s (c_errf (fun _ => ef_spot) (DE.f (de_ix ix_d (ov 0) (DF.o d_int) (by intro _ _; rfl)))))) (da_cons (DE.f (DF.s (c_errf (fun _ => ef_which) (DE.f (de_ix ix_d (ov 0) (DF.o d_int) (by intro _ _; rfl)))))) da_nil))))))))
theorem sc_l_kinds : FnScope N_l_kinds ["_law_error"] (defScope st_l_kinds) := ⟨rfl, rfl, rfl, by decide +kernel, rfl, by decide +kernel, by decide +kernel⟩
theorem der_l_kinds {a_InvalidName : Addr} {a_InvalidNumber : Addr} {a_InvalidList : Addr} {a_InvalidLook : Addr} {a_InvalidSight : Addr} {a_Late : Addr} {a_InvalidText : Addr} {a_Unknown : Addr} (fx_ : ∀ C ∈ [a_InvalidName, a_InvalidNumber, a_InvalidList, a_InvalidLook, a_InvalidSight, a_Late, a_InvalidText, a_Unknown], ErrFx K C) (er_InvalidList : ∀ D ∈ [a_InvalidName, a_InvalidNumber, a_InvalidList, a_InvalidLook, a_InvalidSight, a_Late, a_InvalidText, a_Unknown], PySem.W.kitOne K (.ref D) (.ref a_InvalidList) = some (decide (D = a_InvalidList))) (m_InvalidList : mg "InvalidList" = some (.ref a_InvalidList)) (n_isinstance : mg "isinstance" = none) (er_InvalidNumber : ∀ D ∈ [a_InvalidName, a_InvalidNumber, a_InvalidList, a_InvalidLook, a_InvalidSight, a_Late, a_InvalidText, a_Unknown], PySem.W.kitOne K (.ref D) (.ref a_InvalidNumber) = some (decide (D = a_InvalidNumber))) (m_InvalidNumber : mg "InvalidNumber" = some (.ref a_InvalidNumber)) (er_InvalidName : ∀ D ∈ [a_InvalidName, a_InvalidNumber, a_InvalidList, a_InvalidLook, a_InvalidSight, a_Late, a_InvalidText, a_Unknown], PySem.W.kitOne K (.ref D) (.ref a_InvalidName) = some (decide (D = a_InvalidName))) (m_InvalidName : mg "InvalidName" = some (.ref a_InvalidName)) (er_Late : ∀ D ∈ [a_InvalidName, a_InvalidNumber, a_InvalidList, a_InvalidLook, a_InvalidSight, a_Late, a_InvalidText, a_Unknown], PySem.W.kitOne K (.ref D) (.ref a_Late) = some (decide (D = a_Late))) (m_Late : mg "Late" = some (.ref a_Late)) (er_InvalidSight : ∀ D ∈ [a_InvalidName, a_InvalidNumber, a_InvalidList, a_InvalidLook, a_InvalidSight, a_Late, a_InvalidText, a_Unknown], PySem.W.kitOne K (.ref D) (.ref a_InvalidSight) = some (decide (D = a_InvalidSight))) (m_InvalidSight : mg "InvalidSight" = some (.ref a_InvalidSight)) (er_InvalidLook : ∀ D ∈ [a_InvalidName, a_InvalidNumber, a_InvalidList, a_InvalidLook, a_InvalidSight, a_Late, a_InvalidText, a_Unknown], PySem.W.kitOne K (.ref D) (.ref a_InvalidLook) = some (decide (D = a_InvalidLook))) (m_InvalidLook : mg "InvalidLook" = some (.ref a_InvalidLook)) (er_Unknown : ∀ D ∈ [a_InvalidName, a_InvalidNumber, a_InvalidList, a_InvalidLook, a_InvalidSight, a_Late, a_InvalidText, a_Unknown], PySem.W.kitOne K (.ref D) (.ref a_Unknown) = some (decide (D = a_Unknown))) (m_Unknown : mg "Unknown" = some (.ref a_Unknown)) (er_InvalidText : ∀ D ∈ [a_InvalidName, a_InvalidNumber, a_InvalidList, a_InvalidLook, a_InvalidSight, a_Late, a_InvalidText, a_Unknown], PySem.W.kitOne K (.ref D) (.ref a_InvalidText) = some (decide (D = a_InvalidText))) (m_InvalidText : mg "InvalidText" = some (.ref a_InvalidText)) {f : Addr} {cdv : Value} {A : Around} {outer : List Env} {s : Shared} {H : Hp} {E : XK} (C : Cz (Fam.one (cxOf (L2.CX P w) P w K mg base N_l_kinds "_law_kinds" (defScope st_l_kinds) f cdv A outer s H E)) (fun cls d _ H' => E cls d H') 0) :
    DSs (Fam.one (cxOf (L2.CX P w) P w K mg base N_l_kinds "_law_kinds" (defScope st_l_kinds) f cdv A outer s H E)) (fun cls d _ H' => E cls d H') (defBody st_l_kinds) (ws_l_kinds a_InvalidName a_InvalidNumber a_InvalidList a_InvalidLook a_InvalidSight a_Late a_InvalidText a_Unknown) :=
  (dss_cons (ds_set 1 (de_lst (da_cons (DE.f (c_errIs fx_ er_InvalidName (dv 0) (by intro _; exact n_isinstance) (by intro _; exact m_InvalidName))) (da_cons (DE.f (c_errIs fx_ er_InvalidNumber (dv 0) (by intro _; exact n_isinstance) (by intro _; exact m_InvalidNumber))) (da_cons (DE.f (c_errIs fx_ er_InvalidList (dv 0) (by intro _; exact n_isinstance) (by intro _; exact m_InvalidList))) da_nil)))) C.nd)
      (dss_cons (ds_set 1 (de_bin bin_add (ov 1) (DF.o (DE.f (de_lst (da_cons (DE.f (c_errIs fx_ er_InvalidLook (dv 0) (by intro _; exact n_isinstance) (by intro _; exact m_InvalidLook))) (da_cons (DE.f (c_errIs fx_ er_InvalidSight (dv 0) (by intro _; exact n_isinstance) (by intro _; exact m_InvalidSight))) (da_cons (DE.f (c_errIs fx_ er_Late (dv 0) (by intro _; exact n_isinstance) (by intro _; exact m_Late))) da_nil))))))) C.nd)
      (dss_one (ds_ret (de_bin bin_add (ov 1) (DF.o (DE.f (de_lst (da_cons (DE.f (c_errIs fx_ er_InvalidText (dv 0) (by intro _; exact n_isinstance) (by intro _; exact m_InvalidText))) (da_cons (DE.f (c_errIs fx_ er_Unknown (dv 0) (by intro _; exact n_isinstance) (by intro _; exact m_Unknown))) da_nil))))))))))
theorem sc_law_2 : FnScope N_law_2 ["_law_script"] (defScope st_law_2) := ⟨rfl, rfl, rfl, by decide +kernel, rfl, by decide +kernel, by decide +kernel⟩
theorem der_law_2 {ds_l_pump : DSp} {ds_l_cup : DSp} {ds_l_named : DSp} {ds_l_placed : DSp} {ds_l_bare : DSp} {ds_l_fields : DSp} {ds_l_kinds : DSp} {a_InvalidName : Addr} {a_InvalidNumber : Addr} {a_InvalidList : Addr} {a_InvalidLook : Addr} {a_InvalidSight : Addr} {a_Late : Addr} {a_InvalidText : Addr} {a_Unknown : Addr} {a_TopsError : Addr} (i_l_pump : IsFn P w K mg base "_law_pump" 1 ["_law_script", "_law_at"] ds_l_pump) (i_l_cup : IsFn P w K mg base "_law_cup" 1 ["_law_pump_here", "_law_many"] ds_l_cup) (i_l_named : IsFn P w K mg base "_law_named" 1 ["_law_one"] ds_l_named) (i_l_placed : IsFn P w K mg base "_law_placed" 1 ["_law_thing"] ds_l_placed) (i_l_bare : IsFn P w K mg base "_law_bare" 1 [] ds_l_bare) (i_l_fields : IsFn P w K mg base "_law_fields" 1 ["_law_errors"] ds_l_fields) (n_range : mg "range" = none) (i_l_kinds : IsFn P w K mg base "_law_kinds" 1 ["_law_error"] ds_l_kinds) (fx_ : ∀ C ∈ [a_InvalidName, a_InvalidNumber, a_InvalidList, a_InvalidLook, a_InvalidSight, a_Late, a_InvalidText, a_Unknown], ErrFx K C) (er_ValueError : ∀ D ∈ [a_InvalidName, a_InvalidNumber, a_InvalidList, a_InvalidLook, a_InvalidSight, a_Late, a_InvalidText, a_Unknown], PySem.W.kitOne K (.ref D) (.type "ValueError") = some true) (n_isinstance : mg "isinstance" = none) (n_ValueError : mg "ValueError" = none) (er_TopsError : ∀ D ∈ [a_InvalidName, a_InvalidNumber, a_InvalidList, a_InvalidLook, a_InvalidSight, a_Late, a_InvalidText, a_Unknown], PySem.W.kitOne K (.ref D) (.ref a_TopsError) = some true) (m_TopsError : mg "TopsError" = some (.ref a_TopsError)) {f : Addr} {cdv : Value} {A : Around} {outer : List Env} {s : Shared} {H : Hp} {E : XK} (C : Cz (Fam.one (cxOf (L2.CX P w) P w K mg base N_law_2 "law" (defScope st_law_2) f cdv A outer s H E)) (fun cls d _ H' => E cls d H') 1) :
    DSs (Fam.one (cxOf (L2.CX P w) P w K mg base N_law_2 "law" (defScope st_law_2) f cdv A outer s H E)) (fun cls d _ H' => E cls d H') (defBody st_law_2) (ws_law_2 ds_l_pump ds_l_cup ds_l_named ds_l_placed ds_l_bare ds_l_fields ds_l_kinds a_InvalidName a_InvalidNumber a_InvalidList a_InvalidLook a_InvalidSight a_Late a_InvalidText a_Unknown a_TopsError) :=
  (dss_cl (dsgs_cons (dsg_lift (ds_set 1 (c_call C (by intro _; exact i_l_pump) (da_cons (dv 0) (da_cons d_int da_nil))) C.nd))
      (dsgs_cons (dsg_set 2 (deg_new (deg_base (de_lst (da_cons (DE.f (c_callP C (by intro _; exact i_l_cup) 1 (da_cons (DE.f (de_bin bin_pow (DF.o d_int) (DF.o d_int))) da_nil))) (da_cons (DE.f (de_lst (da_cons d_str da_nil))) da_nil))))) C.nd)
      (dsgs_cons (dsg_lift (ds_set 3 (de_ix ix_d (DF.o (DE.f (de_lst (da_cons d_str (da_cons d_int (da_cons d_str (da_cons d_bl (da_cons (DE.f (de_tup (da_cons d_int da_nil))) (da_cons (DE.f de_newD) (da_cons (DE.f (de_tup da_nil)) (da_cons (DE.f (de_tup (da_cons d_int (da_cons d_int da_nil)))) (da_cons (DE.f (de_tup (da_cons d_str (da_cons d_non (da_cons (DE.f (de_lst (da_cons d_int da_nil))) da_nil))))) da_nil)))))))))))) (DF.o (DE.f (c_callP C (by intro _; exact i_l_cup) 1 (da_cons d_int da_nil)))) (by intro _ _; rfl)) C.nd))
      (dsgs_cons (dsg_par 4 5 C.calm C.nd (dag_cons (deg_base (c_call C (by intro _; exact i_l_placed) (da_cons (dv 2) da_nil))) (dag_cons (deg_base (c_call C (by intro _; exact i_l_named) (da_cons (dv 2) da_nil))) dag_nil)) (by intro _; first | rfl | with_unfolding_all rfl | kernel_rfl))
      (dsgs_cons (dsg_lift (ds_par 6 7 C.calm C.nd (c_call C (by intro _; exact i_l_placed) (da_cons (dv 3) da_nil)) (c_call0 C (by intro _; exact i_l_bare)) (by intro _; first | rfl | with_unfolding_all rfl | kernel_rfl)))
      (dsgs_cons (dsg_for C.hp C.calm (di_list (DE.f (de_lst (da_cons (dv 4) (da_cons (dv 5) da_nil))))) (dg_n 8 C.nd) (dsgs_one (dsg_if (dtg_lent (dt_cmp (bin_neX C.hu) (DF.o (DE.f (c_call C (by intro _; exact i_l_fields) (da_cons (dv 8) da_nil)))) (DF.o (DE.f (de_bin bin_rep (DF.o (DE.f (de_lst (da_cons (dv 2) da_nil)))) (DF.o d_int)))) (by first | rfl | with_unfolding_all rfl))) (dsgs_one (dsg_lift (ds_ret (DF.s d_bl)))) dsgs_nil)))
      (dsgs_cons (dsg_expr (deg_app (deg_base (DF.s (dv 2))) (deg_base (DF.s d_str))))
      (dsgs_cons (dsg_if (dtg_lent (DW.t (dw_or (dt_cmp (bin_neX C.hu) (DF.o (DE.f (c_call C (by intro _; exact i_l_fields) (da_cons (dv 4) da_nil)))) (DF.o (DE.f (de_bin bin_rep (DF.o (DE.f (de_lst (da_cons (dv 2) da_nil)))) (DF.o d_int)))) (by first | rfl | with_unfolding_all rfl)) (dw_or1 (dt_cmp (bin_neX C.hu) (DF.o (DE.f (c_call C (by intro _; exact i_l_fields) (da_cons (dv 5) da_nil)))) (DF.o (DE.f (de_bin bin_rep (DF.o (DE.f (de_lst (da_cons (dv 2) da_nil)))) (DF.o d_int)))) (by first | rfl | with_unfolding_all rfl)))))) (dsgs_one (dsg_lift (ds_ret (DF.s d_bl)))) dsgs_nil)
      (dsgs_cons (dsg_if (dtg_lent (DW.t (dw_or (dt_cmp (bin_neX C.hu) (DF.o (DE.f (c_call C (by intro _; exact i_l_fields) (da_cons (dv 6) da_nil)))) (DF.o (DE.f (de_bin bin_rep (DF.o (DE.f (de_lst (da_cons (dv 3) da_nil)))) (DF.o d_int)))) (by first | rfl | with_unfolding_all rfl)) (dw_or1 (dt_cmp (bin_neX C.hu) (DF.o (DE.f (c_call C (by intro _; exact i_l_fields) (da_cons (dv 7) da_nil)))) (DF.o (DE.f (de_bin bin_rep (DF.o (DE.f (de_lst (da_cons d_non da_nil)))) (DF.o d_int)))) (by first | rfl | with_unfolding_all rfl)))))) (dsgs_one (dsg_lift (ds_ret (DF.s d_bl)))) dsgs_nil)
      (dsgs_cons (dsg_lift (ds_for C.hp C.calm (di_list (DE.f (de_lst (da_cons (DE.f (de_tup da_nil)) (da_cons (DE.f (de_tup (da_cons d_int (da_cons d_int da_nil)))) (da_cons (DE.f (de_tup (da_cons d_str (da_cons d_non da_nil)))) da_nil)))))) (dg_n 9 C.nd) (dss_one (ds_if (DW.t (dw_or (dt_cmp (bin_neX C.hu) (DF.o (DE.f (c_call C (by intro _; exact i_l_fields) (da_cons (DE.f (c_call C (by intro _; exact i_l_placed) (da_cons (dv 9) da_nil))) da_nil)))) (DF.o (DE.f (de_bin bin_rep (DF.o (DE.f (de_lst (da_cons (dv 9) da_nil)))) (DF.o d_int)))) (by first | rfl | with_unfolding_all rfl)) (dw_or1 (dt_cmp (bin_neX C.hu) (DF.o (DE.f (c_call C (by intro _; exact i_l_fields) (da_cons (DE.f (c_call C (by intro _; exact i_l_named) (da_cons (dv 9) da_nil))) da_nil)))) (DF.o (DE.f (de_bin bin_rep (DF.o (DE.f (de_lst (da_cons (dv 9) da_nil)))) (DF.o d_int)))) (by first | rfl | with_unfolding_all rfl))))) (dss_one (ds_ret (DF.s d_bl))) dss_nil))))
      (dsgs_cons (dsg_lift (ds_for C.hp C.calm (di_list (DE.f (de_lst (da_cons (dv 4) (da_cons (dv 5) (da_cons (dv 6) (da_cons (dv 7) da_nil))))))) (dg_n 8 C.nd) (dss_one (ds_for C.hp C.calm (di_rng1 (da_cons d_int da_nil) (by intro _; exact n_range)) (dg_n 10 C.nd) (dss_cons (ds_if (DW.t (dw_or (dt_not (dt_val (c_errIs fx_ er_TopsError (DE.f (de_ix ix_d (ov 8) (ov 10) (by intro _ _; rfl))) (by intro _; exact n_isinstance) (by intro _; exact m_TopsError)))) (dw_or1 (dt_not (dt_val (c_errIsT "ValueError" fx_ er_ValueError (DE.f (de_ix ix_d (ov 8) (ov 10) (by intro _ _; rfl))) (by intro _; exact n_isinstance) (by intro _; exact n_ValueError) (by decide +kernel))))))) (dss_one (ds_ret (DF.s d_bl))) dss_nil)
      (dss_one (ds_if (dt_cmp (bin_neX C.hu) (DF.o (DE.f (c_call C (by intro _; exact i_l_kinds) (da_cons (DE.f (de_ix ix_d (ov 8) (ov 10) (by intro _ _; rfl))) da_nil)))) (DF.o (DE.f (de_lc [("_law_k", 11)] C.calm C.nd (di_rng1 (da_cons d_int da_nil) (by intro _; exact n_range)) (by intro _; show BlkOk N_law_2 (defScope st_law_2) _ _; exact ⟨rfl, by decide +kernel, by decide +kernel, by decide +kernel, by decide +kernel⟩) (dg_n 11 (C.blk _).nd) dts_nil (DE.f (de_cmp (bin_eqX (C.blk _).hu) (ov 11) (ov 10) (by first | rfl | with_unfolding_all rfl)))))) (by first | rfl | with_unfolding_all rfl)) (dss_one (ds_ret (DF.s d_bl))) dss_nil)))))))
      (dsgs_one (dsg_lift (ds_ret (DF.s d_bl))))))))))))))))
end
end Lk01
namespace Sp
open PySem L2 DL
def LETT : Str := "abcdefghijklmnopqrstuvwxyz"
def letterIn (x : Str) : Bool := !(Builtin.Str.occurrences LETT x 0 LETT.length 1).isEmpty
def charsS (z : Str) : List Str := z.cps.toList.map fun c => ⟨#[c]⟩
def nameB (s : Str) : Bool := decide (1 ≤ s.length) && decide (s.length ≤ 8) && (charsS s).all letterIn
theorem atI_0 {α : Type} {a : α} {r : List α} : L2.atI (a :: r) 0 = some a := L2.atI_nat (j := 0) rfl
theorem atI_1 {α : Type} {a b : α} {r : List α} : L2.atI (a :: b :: r) 1 = some b := L2.atI_nat (j := 1) rfl
theorem atI_2 {α : Type} {a b c : α} {r : List α} : L2.atI (a :: b :: c :: r) 2 = some c := L2.atI_nat (j := 2) rfl
def isTops (ps : List Str) : D → Bool
  | .lst xs => match strs? xs with
    | some ss => (ss.all nameB && decide ss.Nodup) && ss.all fun s => decide (s ∈ ps)
    | none => false
  | _ => false
theorem isTops_sL (ps ss : List Str) : isTops ps (.lst (ss.map .str)) = ((ss.all nameB && decide ss.Nodup) && ss.all fun s => decide (s ∈ ps)) := by
  unfold isTops
  simp only
  rw [strs?_map]
def optB : Option Bool → D
  | some b => .bl b
  | none => .non
structure Sg where
  crew : List Str
  seen : List (Int × List Str)
abbrev Sg.fs (s : Sg) : List (Str × D) := [("crew", .tup (s.crew.map .str)), ("seen", .dic (encA Sum.inl sL s.seen))]
abbrev Sg.d (K : PySem.W.Frag) (s : Sg) : D := .obj (ad K "Sight") s.fs
structure Sg.Ok (s : Sg) : Prop where
  nb : ∀ x ∈ s.crew, nameB x = true
  nd : s.crew.Nodup
  ne : s.crew ≠ []
  few : s.crew.length < 4000
  fewS : s.seen.length < 4000
  keys : (s.seen.map (·.1)).Nodup
  tops : ∀ p ∈ s.seen, p.2.Nodup ∧ ∀ x ∈ p.2, x ∈ s.crew
def Sg.moments (s : Sg) : List Int := isort (s.seen.map (·.1))
def Sg.has (s : Sg) (m : Int) : Bool := decide (m ∈ s.seen.map (·.1))
def Sg.tops (s : Sg) (m : Int) : List Str := (lookA s.seen m).getD []
theorem Sg.look {s : Sg} {m : Int} (h : s.has m = true) : lookA s.seen m = some (s.tops m) := by
  unfold Sg.has at h
  rw [← lookA_isSome] at h
  unfold Sg.tops
  cases e : lookA s.seen m with
  | none => rw [e] at h; cases h
  | some t => rfl
inductive AR where
  | ok (o : Option Bool) | number (x : D) | name (x : D) | unknown (x : D)
def AR.wp (K : PySem.W.Frag) (Q : SD → Dl → Prop) (E : XQ) (α : Dl) : AR → Prop
  | .ok o => Q (.d (optB o)) α
  | .number v => E (ad K "InvalidNumber") "value" v α
  | .name v => E (ad K "InvalidName") "value" v α
  | .unknown v => E (ad K "Unknown") "which" v α
theorem cm {i j : Int} (hi : i.natAbs < 18446744073709551616) (hj : j.natAbs < 18446744073709551616) : CMulW i j := wide_mul (a := 64) (b := 64) (Nat.lt_of_lt_of_le hi (by decide)) (Nat.lt_of_lt_of_le hj (by decide)) (by decide) (by decide) (by decide)
def ds_l_pump : DSp := fun α Q _ => ∃ (ns : List Int) (at_ : Int), α = [some (.d (.scr ns)), some (.d (.int at_))] ∧ 0 ≤ at_ ∧ at_ < 1000 ∧ ∀ n : Int, Q (.o (.l [.int n])) [some (.d (.scr ns)), some (.d (.int at_))]
theorem len_l_pump (α : Dl) (Q : SD → Dl → Prop) (E : XQ) (h : ds_l_pump α Q E) : α.length = 2 ∧ ∀ (i : Nat) (c : Cn), α[i]? ≠ some (some (.o c)) := by
  obtain ⟨n, m, rfl, _⟩ := h
  exact lenOf rfl rfl
theorem full_step {full x : Int} {i : Nat} (h : full.natAbs ≤ 2 ^ (32 * i)) (x0 : 0 ≤ x) (x1 : x < 2147483122) : (full * 2147483122 + x).natAbs ≤ 2 ^ (32 * (i + 1)) := by
  have e : 2 ^ (32 * (i + 1)) = 2 ^ (32 * i) * 4294967296 := by rw [Nat.mul_add, Nat.pow_add]
  have p : 1 ≤ 2 ^ (32 * i) := Nat.one_le_two_pow
  rw [e]
  generalize 2 ^ (32 * i) = P at h p ⊢
  omega
theorem pump_t5 {ns : List Int} {at_ cell near far : Int} {dp : Option SD} {M : WEnds} {E : XQ} (a0 : 0 ≤ at_) (a1 : at_ < 1000) (n0 : 0 ≤ near) (n1 : near < 2147483137) (f0 : 0 ≤ far) (f1 : far < 2147483123)
    (hq : ∀ n : Int, ∀ r : List (Option SD), M.rt (.o (.l [.int n])) (some (.d (.scr ns)) :: some (.d (.int at_)) :: r)) :
    ws_l_pump_t5 M E [some (.d (.scr ns)), some (.d (.int at_)), some (.d (.int cell)), dp, some (.d (.int near)), some (.d (.int far)), some (.d (.int 0)), none] := by
  refine ⟨⟨by decide, by decide⟩, fun i δ => ∃ (near far full : Int) (r : Option SD), 0 ≤ near ∧ near < 2147483137 ∧ 0 ≤ far ∧ far < 2147483123 ∧ full.natAbs ≤ 2 ^ (32 * i) ∧
    δ = [some (.d (.scr ns)), some (.d (.int at_)), some (.d (.int cell)), dp, some (.d (.int near)), some (.d (.int far)), some (.d (.int full)), r], ⟨near, far, 0, none, n0, n1, f0, f1, by decide, rfl⟩, ?_, ?_⟩
  · rintro i d δ hd ⟨near, far, full, r, n0, n1, f0, f1, hf, rfl⟩
    obtain ⟨hi, rfl⟩ := rangeD_get hd
    have hi' : i < 200 := hi
    have m1 := Int.emod_nonneg (near * 46649 + (0 + (i : Nat)) * 709 + 1009 * at_ + 31) (by decide : (2147483137 : Int) ≠ 0)
    have m2 := Int.emod_lt_of_pos (near * 46649 + (0 + (i : Nat)) * 709 + 1009 * at_ + 31) (by decide : (0 : Int) < 2147483137)
    have g1 := Int.emod_nonneg (far * far + 40961 * (0 + (i : Nat)) + 7001) (by decide : (2147483123 : Int) ≠ 0)
    have g2 := Int.emod_lt_of_pos (far * far + 40961 * (0 + (i : Nat)) + 7001) (by decide : (0 : Int) < 2147483123)
    generalize hn : (near * 46649 + (0 + (i : Nat)) * 709 + 1009 * at_ + 31) % 2147483137 = near' at m1 m2
    generalize hg : (far * far + 40961 * (0 + (i : Nat)) + 7001) % 2147483123 = far' at g1 g2
    have x1 := Int.emod_nonneg (near' * far' + 29 * (0 + (i : Nat))) (by decide : (2147483122 : Int) ≠ 0)
    have x2 := Int.emod_lt_of_pos (near' * far' + 29 * (0 + (i : Nat))) (by decide : (0 : Int) < 2147483122)
    have big : CMulW full 2147483122 := wide_mul (a := 6500) (b := 64) (Nat.lt_of_le_of_lt hf (Nat.pow_lt_pow_right (by decide) (by omega))) (by decide) (by decide) (by decide) (by decide)
    refine ⟨lt! rfl, lt! rfl, cm (by omega) (by decide), cm (by omega) (by decide), cm (by decide) (by omega), (by decide : (0 : Int) < 2147483137), lt! rfl,
      lt! rfl, cm (by omega) (by omega), cm (by decide) (by omega), (by decide : (0 : Int) < 2147483123), lt! rfl, ?_⟩
    rw [← hn] at m1 m2 x1 x2
    rw [← hg] at g1 g2 x1 x2
    refine ⟨lt! rfl, big, cm (by omega) (by omega), cm (by decide) (by omega), (by decide : (0 : Int) < 2147483122), lt! rfl, _, _, _, _, m1, m2, g1, g2, full_step hf x1 x2, rfl⟩
  · rintro δ ⟨near, far, full, r, _, _, _, _, _, rfl⟩
    exact ⟨by show 1 ≤ sizeLine; decide, hq full _⟩
theorem pw1 : CPow 10 18 := ⟨by decide, by decide, by decide⟩
theorem pw2 : CPow 10 60 := ⟨by decide, by decide, by decide⟩
theorem pm1 : CMulW ((10 : Int) ^ Int.toNat 60) ((10 : Int) ^ Int.toNat 60) := by unfold CMulW; decide +kernel
theorem pm2 : CMulW ((10 : Int) ^ Int.toNat 60 * (10 : Int) ^ Int.toNat 60) ((10 : Int) ^ Int.toNat 60) := by unfold CMulW; decide +kernel
theorem pm3 : CMulW ((10 : Int) ^ Int.toNat 60 * (10 : Int) ^ Int.toNat 60 * (10 : Int) ^ Int.toNat 60) ((10 : Int) ^ Int.toNat 60) := by unfold CMulW; decide +kernel
def deep : Int := (10 : Int) ^ Int.toNat 60 * (10 : Int) ^ Int.toNat 60 * (10 : Int) ^ Int.toNat 60 * (10 : Int) ^ Int.toNat 60
theorem pm4 : CMulW deep deep := by unfold CMulW; decide +kernel
theorem pm5 : CMulW (deep * deep) deep := by unfold CMulW; decide +kernel
theorem pp : 0 < deep * deep * deep := by decide +kernel
theorem law_l_pump (α : Dl) (Q : SD → Dl → Prop) (E : XQ) (h : ds_l_pump α Q E) : ws_l_pump { nx := finD α Q (.d .non), rt := finD α Q } (finE α E) (startD N_l_pump α) := by
  obtain ⟨ns, at_, rfl, a0, a1, hq⟩ := h
  have tail : ∀ cell : Int, ws_l_pump_t2 { nx := finD [some (.d (.scr ns)), some (.d (.int at_))] Q (.d .non), rt := finD [some (.d (.scr ns)), some (.d (.int at_))] Q } (finE [some (.d (.scr ns)), some (.d (.int at_))] E)
      [some (.d (.scr ns)), some (.d (.int at_)), some (.d (.int cell)), none, none, none, none, none] := by
    intro cell
    refine ⟨pw1, ?_⟩
    show if decide ((10 : Int) ^ 18 ≤ cell) = true then _ else _
    by_cases c : (10 : Int) ^ 18 ≤ cell
    · rw [if_pos (decide_eq_true c)]
      refine ⟨lt! rfl, pw2, pw2, pm1, pw2, pm2, pw2, pm3, lt! rfl, pw1, pm4, pm5, pp, by show 1 ≤ sizeLine; decide, hq _⟩
    · rw [if_neg (by simpa using c)]
      refine ⟨cm (by decide) (by omega), (by decide : (0 : Int) < 2147483137), (by decide : (0 : Int) < 2147483123), lt! rfl, lt! rfl, lt! rfl, ?_⟩
      have z := pump_t5 (ns := ns) (cell := cell) (dp := none) (E := finE [some (.d (.scr ns)), some (.d (.int at_))] E) (M := { nx := finD [some (.d (.scr ns)), some (.d (.int at_))] Q (.d .non), rt := finD [some (.d (.scr ns)), some (.d (.int at_))] Q }) a0 a1
        (Int.emod_nonneg (cell + 5 * at_) (by decide : (2147483137 : Int) ≠ 0)) (Int.emod_lt_of_pos (cell + 5 * at_) (by decide)) (Int.emod_nonneg cell (by decide : (2147483123 : Int) ≠ 0)) (Int.emod_lt_of_pos cell (by decide)) fun n r => hq n
      exact ⟨lt! rfl, z⟩
  refine ⟨lt! rfl, cm (by decide) (by omega), lt! rfl, ?_⟩
  show if decide (at_ < (ns.length : Nat)) = true then _ else _
  by_cases c : at_ < (ns.length : Nat)
  · rw [if_pos (decide_eq_true c)]
    obtain ⟨v, hv⟩ : ∃ v, L2.atI ns at_ = some v := by
      obtain ⟨k, rfl⟩ := Int.eq_ofNat_of_zero_le a0
      have lt : k < ns.length := by omega
      exact ⟨ns[k], L2.atI_nat (List.getElem?_eq_getElem lt)⟩
    refine ⟨lt! rfl, ?_⟩
    show (match L2.atI ns at_ with | some d => _ | none => False)
    rw [hv]
    exact ⟨lt! rfl, tail v⟩
  · rw [if_neg (by simpa using c)]
    exact tail _
def ds_l_cup : DSp := fun α Q _ => ∃ n m : Int, α = [some (.p (.l [.int n])), some (.d (.int m))] ∧ 0 < m ∧ m.natAbs.log2 < 9000 ∧ Q (.d (.int (n % m))) [some (.p (.l [.int (n / m)])), some (.d (.int m))]
theorem len_l_cup (α : Dl) (Q : SD → Dl → Prop) (E : XQ) (h : ds_l_cup α Q E) : α.length = 2 ∧ ∀ (i : Nat) (c : Cn), α[i]? ≠ some (some (.o c)) := by
  obtain ⟨n, m, rfl, _⟩ := h
  exact lenOf rfl rfl
theorem law_l_cup (α : Dl) (Q : SD → Dl → Prop) (E : XQ) (h : ds_l_cup α Q E) : ws_l_cup { nx := finD α Q (.d .non), rt := finD α Q } (finE α E) (startD N_l_cup α) := by
  obtain ⟨n, m, rfl, h0, h1, hq⟩ := h
  exact ⟨lt! rfl, h0, lt! rfl, ⟨h0, h1⟩, ⟨_, rfl⟩, hq⟩
theorem use_cup {n m : Int} {Q : SD → Dl → Prop} {E : XQ} (h0 : 0 < m) (h1 : m ≤ 100000) (q : ∀ n' j : Int, 0 ≤ j → j < m → Q (.d (.int j)) [some (.p (.l [.int n'])), some (.d (.int m))]) : ds_l_cup [some (.p (.l [.int n])), some (.d (.int m))] Q E :=
  ⟨n, m, rfl, h0, log_5000 (by omega) h1, q _ _ (Int.emod_nonneg n (Int.ne_of_gt h0)) (Int.emod_lt_of_pos n h0)⟩
def lift (o : List Str) (x : Str) (j : Nat) : List Str := (o.filter fun y => !decide (y = x)).take j ++ [x] ++ (o.filter fun y => !decide (y = x)).drop j
theorem lift_perm {o : List Str} {x : Str} (nd : o.Nodup) (hx : x ∈ o) (j : Nat) : (lift o x j).Perm o := by
  unfold lift
  refine (insert_perm _ x j).trans ?_
  have h1 : (o.filter fun y => !decide (y = x)) = o.erase x := by
    rw [List.Nodup.erase_eq_filter nd]
    refine List.filter_congr fun y _ => ?_
    by_cases q : y = x <;> simp [q, bne]
  rw [h1]
  exact List.perm_append_comm.trans (List.perm_cons_erase hx).symm
inductive Lifts : List Str → List Str → List Str → Prop
  | nil (o : List Str) : Lifts [] o o
  | snoc {ns : List Str} {o o' : List Str} {x : Str} {j : Nat} : Lifts ns o o' → x ∈ o' → j ≤ o'.idxOf x → Lifts (ns ++ [x]) o (lift o' x j)
theorem Lifts.perm {ns o o' : List Str} (h : Lifts ns o o') (nd : o.Nodup) : o'.Perm o ∧ o'.Nodup ∧ ∀ x ∈ ns, x ∈ o := by
  induction h with
  | nil o => exact ⟨.refl _, nd, fun x h => nomatch h⟩
  | snoc h hx _ ih =>
    obtain ⟨h1, h2, h3⟩ := ih nd
    have p := lift_perm h2 hx
    refine ⟨(p _).trans h1, (p _).nodup_iff.mpr h2, fun y hy => ?_⟩
    rcases List.mem_append.mp hy with hy | hy
    · exact h3 y hy
    · rw [List.mem_singleton.mp hy]
      exact h1.mem_iff.mp hx
abbrev Hd := Int × List Str × List Str
inductive HOk (o0 : List Str) : List Hd → List Str → Prop
  | nil : HOk o0 [] o0
  | snoc {hs : List Hd} {o o' raw : List Str} {m : Int} : HOk o0 hs o → (∀ h ∈ hs, h.1 < m) → Lifts raw o o' → (hs = [] → raw = []) → HOk o0 (hs ++ [(m, o', ssort (TX.onceOf raw))]) o'
abbrev Lk := Int × List Str
structure LooksOf (hs : List Hd) (L : List Lk) : Prop where
  from_ : ∀ p ∈ L, ∃ h ∈ hs, p.1 = h.1 ∧ ∃ k, p.2 = h.2.1.take k
  each : ∀ h ∈ hs, ∃ p ∈ L, p.1 = h.1
  len : L.length ≤ 2 * hs.length
theorem LooksOf.perm {hs : List Hd} {L L' : List Lk} (h : LooksOf hs L) (p : L'.Perm L) : LooksOf hs L' :=
  ⟨fun q hq => h.from_ q (p.mem_iff.mp hq), fun q hq => let ⟨r, h1, h2⟩ := h.each q hq; ⟨r, p.mem_iff.mpr h1, h2⟩, by rw [p.length_eq]; exact h.len⟩
theorem LooksOf.nil : LooksOf [] [] := ⟨(fun _ h => nomatch h), (fun _ h => nomatch h), Nat.le_refl _⟩
theorem LooksOf.one {hs : List Hd} {L : List Lk} (h : LooksOf hs L) (m : Int) (o ns : List Str) (k : Nat) : LooksOf (hs ++ [(m, o, ns)]) (L ++ [(m, o.take k)]) := by
  refine ⟨fun q hq => ?_, fun q hq => ?_, by rw [List.length_append, List.length_append, List.length_singleton, List.length_singleton]; have := h.len; omega⟩
  · rcases List.mem_append.mp hq with hq | hq
    · obtain ⟨r, h1, h2⟩ := h.from_ q hq
      exact ⟨r, List.mem_append_left _ h1, h2⟩
    · rw [List.mem_singleton.mp hq]
      exact ⟨(m, o, ns), List.mem_append_right _ (List.mem_singleton.mpr rfl), rfl, k, rfl⟩
  · rcases List.mem_append.mp hq with hq | hq
    · obtain ⟨r, h1, h2⟩ := h.each q hq
      exact ⟨r, List.mem_append_left _ h1, h2⟩
    · rw [List.mem_singleton.mp hq]
      exact ⟨(m, o.take k), List.mem_append_right _ (List.mem_singleton.mpr rfl), rfl⟩
theorem deq_refl {x : D} (h : eqOk x = true) : deq x x = true := by
  obtain ⟨p, e, _⟩ := eqOk_some h
  rw [deq_of e e]
  exact PySem.SeqAt.eqv_refl_plain p (toP_plain e)
theorem plainEq_self {x : D} {b : Bool} (h : plainEq x x = some b) : b = true := by
  obtain ⟨h1, _, h2⟩ := plainEq_some h
  rw [h2]
  exact deq_refl h1
section
variable {κ β : Type} [DecidableEq κ]
end
structure Agree (ps : List Str) (ord : Int → List Str) (L : List Lk) : Prop where
  nb : ∀ x ∈ ps, nameB x = true
  nd : ∀ p ∈ L, (ord p.1).Nodup
  sub : ∀ p ∈ L, ∀ x ∈ ord p.1, x ∈ ps
  pre : ∀ p ∈ L, ∃ k, p.2 = (ord p.1).take k
theorem Agree.tops {ps : List Str} {ord : Int → List Str} {L : List Lk} (h : Agree ps ord L) {p : Lk} (hp : p ∈ L) : isTops ps (sL p.2) = true := by
  obtain ⟨k, e⟩ := h.pre p hp
  have sub : ∀ x ∈ p.2, x ∈ ps := fun x hx => h.sub p hp x (List.mem_of_mem_take (by rw [← e]; exact hx))
  rw [isTops_sL]
  simp only [Bool.and_eq_true, List.all_eq_true, decide_eq_true_eq]
  exact ⟨⟨fun x hx => h.nb x (sub x hx), by rw [e]; exact (h.nd p hp).sublist (List.take_sublist _ _)⟩, sub⟩
end Sp
namespace Sp
open PySem L2 DL
local macro_rules | `(tactic| walk_at "wp") => `(tactic| simp only [wSeq, wMkV, wMkV0, wErrF, wErrIs, wTag, wVarS, wUpper, wSeqG, wLf, wTryG, wFnG, WEndsG.at_, wCl, wSetG, wRetG, wDropG, wIfG, wBsE, wBsT, wNewG, wOpG, wFnC, wBG, asBG, wNotG, wOrG, wPutG, wTupG, wKeep, wAndV, wOwnG, wFzG, wCellS, wNextG, wNilG, wConsG, wLstG, finDG, wIsB, sIsB, wFnN, wPerm, permD, wiGiv, wiZip, wStar, wIxT, wGet2T, wPop, wAugT, sLenT, sListT, keyT, keysD, wItems, sLenD, atI_0, atI_1, atI_2, wIf, wAnd, wOr, wNot, vAnd, vOr, vNot, wB, wBin, wChain, wRet, wRetN, wNext, wNever, wIfE, eF, fO, fS, wNeg, wC, wVar, oVar, wDrop, wSet, wNil, wCons, wLst, wTup, wCall, wFn, wFnP,  wTwo, wThree, wPar, wPar3, wUn, wgN, wgTup, wgCons, wgNil, wAugI, wIsN, sIsN, nonB, wXf, wRaise, wMet, tyOk, sLen, sToInt, sList, sListD, sTuple, sAdd, sInt, sInt0, sIn, sEq, sEqD, sEqX_nil, sEqX_str, sEqX_int, sEqX_bl, sEqX_non, sEqX_sL, sEqX_iL, sEqX_sT, List.isEmpty_map, flt_all, List.isEmpty_nil, List.isEmpty_cons, sIx, sCut, wCut, wNoP, wSoP, wYes, wBreak, wCont, wApp, wPopAt, wIns, wRevM, wClr, wListRg, wCutS, sMulS, sRep, wFnL3, wRetO, wCutT, wLend, lentD, nlSD, plSD, wNewT, wPutT, wInT, wBN, asBN, wPut, wFld, wMeth, wMake, wSetF, putD, nons, wIxD, wInD, wGet2, wNewD, wPutD, wEqO, wMin2, wMax2, wMaxLen, wRev, keyD,  wiSeq, wiTup, wiStr, wiRng1, wiRng2, wiEnum, outSlot,  view, SD.fz, Cn.fz, D.strip, asB, ownOf, keepKind, argsD, finD, finE, backD, startD, wipeD, unblk,  isi_list_lst, isi_list_tup, isi_list_str, isi_list_int, isi_list_bl, isi_list_non, isi_list_dic, isi_tup_lst, isi_tup_tup, isi_tup_str, isi_tup_int, isi_tup_bl, isi_tup_non, isi_tup_dic, isi_str_lst, isi_str_tup, isi_str_str, isi_str_int, isi_str_bl, isi_str_non, isi_str_dic,  isi_int_lst, isi_int_tup, isi_int_str, isi_int_int, isi_int_bl, isi_int_non, isi_int_dic, isi_bl_lst, isi_bl_tup, isi_bl_str, isi_bl_int, isi_bl_bl, isi_bl_non, isi_bl_dic,  eqOk_str, eqOk_int, eqOk_bl, eqOk_non, eqOk_sL, eqOk_iL, eqOk_nil, eqOk_nilT, deq_str, deq_int, deq_non, deq_sL, deq_iL, deq_sL_nil, deq_iL_nil, dmem_str, dmem_int, some_strs, some_ints, sIndex_str, sIndex_int, sJoin_str, sSum_int, sSorted_str, sSorted_int, keys_I, keys_S, valG_I, valG_S, putG_I, putG_S, encA_len, Option.isSome_map, PySem.sizeLine_eq,  List.getElem?_cons_succ, List.getElem?_cons_zero, List.getElem?_nil, List.set_cons_succ, List.set_cons_zero, List.length_cons, List.length_nil, List.length_map, List.length_append, List.map_cons, List.map_nil, List.cons_append, List.nil_append, List.replicate_succ, List.replicate_zero, List.getD_cons_succ, List.getD_cons_zero, List.lookup_cons, List.lookup_nil, nm_players_crew, nm_moments_crew, nm_tops_crew, nm_above_crew, nm_check_moment_crew, nm_with_look_crew, nm_all_looks_crew, nm_until_crew, nm_renamed_crew, nm_is_pair_crew, nm_rows_crew, nm_least_at_crew, nm_most_at_crew, nm_seen_crew, nm_folk_crew, nm_shown_crew, nm_notes_crew, nm_count_crew, nm_total_crew, nm_look_crew, nm_undo_crew, nm_copy_crew, nm_sight_crew, nm_players_seen, nm_moments_seen, nm_tops_seen, nm_above_seen, nm_check_moment_seen, nm_with_look_seen, nm_all_looks_seen, nm_until_seen, nm_renamed_seen, nm_is_pair_seen, nm_rows_seen, nm_least_at_seen, nm_most_at_seen, nm_crew_seen, nm_folk_seen, nm_shown_seen, nm_notes_seen, nm_count_seen, nm_total_seen, nm_look_seen, nm_undo_seen, nm_copy_seen, nm_sight_seen, nm_players_folk, nm_moments_folk, nm_tops_folk, nm_above_folk, nm_check_moment_folk, nm_with_look_folk, nm_all_looks_folk, nm_until_folk, nm_renamed_folk, nm_is_pair_folk, nm_rows_folk, nm_least_at_folk, nm_most_at_folk, nm_crew_folk, nm_seen_folk, nm_shown_folk, nm_notes_folk, nm_count_folk, nm_total_folk, nm_look_folk, nm_undo_folk, nm_copy_folk, nm_sight_folk, nm_players_shown, nm_moments_shown, nm_tops_shown, nm_above_shown, nm_check_moment_shown, nm_with_look_shown, nm_all_looks_shown, nm_until_shown, nm_renamed_shown, nm_is_pair_shown, nm_rows_shown, nm_least_at_shown, nm_most_at_shown, nm_crew_shown, nm_seen_shown, nm_folk_shown, nm_notes_shown, nm_count_shown, nm_total_shown, nm_look_shown, nm_undo_shown, nm_copy_shown, nm_sight_shown, nm_players_notes, nm_moments_notes, nm_tops_notes, nm_above_notes, nm_check_moment_notes, nm_with_look_notes, nm_all_looks_notes, nm_until_notes, nm_renamed_notes, nm_is_pair_notes, nm_rows_notes, nm_least_at_notes, nm_most_at_notes, nm_crew_notes, nm_seen_notes, nm_folk_notes, nm_shown_notes, nm_count_notes, nm_total_notes, nm_look_notes, nm_undo_notes, nm_copy_notes, nm_sight_notes,  Nat.reduceAdd, Nat.reduceSub, Nat.reduceLT, Nat.reduceLeDiff, Nat.reduceMul, Nat.reduceEqDiff, Nat.zero_add, Nat.add_zero, Nat.lt_add_left_iff_pos, Nat.le_add_left, Nat.zero_le, Nat.zero_lt_succ, Nat.succ_lt_succ_iff,  Cn.l.injEq, Cn.k.injEq, true_and, and_true, exists_eq', exists_eq_left', Option.some.injEq, Option.map_some, Option.map_none, Option.bind_some, Option.isSome_some, Option.isSome_none,  decide_eq_true_eq, Bool.false_eq_true, Bool.not_eq_true', Bool.not_true, Bool.not_false, Bool.not_not, Bool.true_xor, Bool.false_xor, decide_eq_false_iff_not, if_true, if_false, ite_true, ite_false, reduceIte, reduceCtorEq, decide_true, decide_false, decide_not, and_self, eq_self, ne_eq, not_true, not_false_eq_true, exists_const, and_imp, beq_self_eq_true])
local macro_rules | `(tactic| walk_at "wq") => `(tactic| try walk_at "wp")
local macro_rules | `(tactic| walk_at "w1") => `(tactic| simp only [wSeq_k, wMkV, wMkV0, wErrF, wErrIs, wTag, wVarS, wUpper, wSeqG_k, wLf, wTryG, wFnG, WEndsG.at_, wCl, wSetG, wRetG, wDropG, wIfG, wBsE, wBsT, wNewG, wOpG, wFnC, wBG, asBG, wNotG, wOrG, wPutG, wTupG, wKeep, wAndV, wOwnG, wFzG, wCellS, wNextG, wNilG, wConsG, wLstG, finDG, wIsB, sIsB, wFnN, wPerm, permD, wiGiv, wiZip, wStar, wIxT, wGet2T, wPop, wAugT, sLenT, sListT, keyT, keysD, wItems, sLenD, atI_0, atI_1, atI_2, wIf, wAnd, wOr, wNot, vAnd, vOr, vNot, wB, wBin, wChain, wRet, wRetN, wNext, wNever, wIfE, eF, fO, fS, wNeg, wC, wVar, oVar, wDrop, wSet, wNil, wCons, wLst, wTup, wCall, wFn, wFnP,  wTwo, wThree, wPar, wPar3, wUn, wgN, wgTup, wgCons, wgNil, wAugI, wIsN, sIsN, nonB, wXf, wRaise, wMet, tyOk, sLen, sToInt, sList, sListD, sTuple, sAdd, sInt, sInt0, sIn, sEq, sEqD, sEqX_nil, sEqX_str, sEqX_int, sEqX_bl, sEqX_non, sEqX_sL, sEqX_iL, sEqX_sT, List.isEmpty_map, flt_all, List.isEmpty_nil, List.isEmpty_cons, sIx, sCut, wCut, wNoP, wSoP, wYes, wBreak, wCont, wApp, wPopAt, wIns, wRevM, wClr, wListRg, wCutS, sMulS, sRep, wFnL3, wRetO, wCutT, wLend, lentD, nlSD, plSD, wNewT, wPutT, wInT, wBN, asBN, wPut, wFld, wMeth, wMake, wSetF, putD, nons, wIxD, wInD, wGet2, wNewD, wPutD, wEqO, wMin2, wMax2, wMaxLen, wRev, keyD,  wiSeq, wiTup, wiStr, wiRng1, wiRng2, wiEnum, outSlot,  view, SD.fz, Cn.fz, D.strip, asB, ownOf, keepKind, argsD, finD, finE, backD, startD, wipeD, unblk,  isi_list_lst, isi_list_tup, isi_list_str, isi_list_int, isi_list_bl, isi_list_non, isi_list_dic, isi_tup_lst, isi_tup_tup, isi_tup_str, isi_tup_int, isi_tup_bl, isi_tup_non, isi_tup_dic, isi_str_lst, isi_str_tup, isi_str_str, isi_str_int, isi_str_bl, isi_str_non, isi_str_dic,  isi_int_lst, isi_int_tup, isi_int_str, isi_int_int, isi_int_bl, isi_int_non, isi_int_dic, isi_bl_lst, isi_bl_tup, isi_bl_str, isi_bl_int, isi_bl_bl, isi_bl_non, isi_bl_dic,  eqOk_str, eqOk_int, eqOk_bl, eqOk_non, eqOk_sL, eqOk_iL, eqOk_nil, eqOk_nilT, deq_str, deq_int, deq_non, deq_sL, deq_iL, deq_sL_nil, deq_iL_nil, dmem_str, dmem_int, some_strs, some_ints, sIndex_str, sIndex_int, sJoin_str, sSum_int, sSorted_str, sSorted_int, keys_I, keys_S, valG_I, valG_S, putG_I, putG_S, encA_len, Option.isSome_map, PySem.sizeLine_eq,  List.getElem?_cons_succ, List.getElem?_cons_zero, List.getElem?_nil, List.set_cons_succ, List.set_cons_zero, List.length_cons, List.length_nil, List.length_map, List.length_append, List.map_cons, List.map_nil, List.cons_append, List.nil_append, List.replicate_succ, List.replicate_zero, List.getD_cons_succ, List.getD_cons_zero, List.lookup_cons, List.lookup_nil, nm_players_crew, nm_moments_crew, nm_tops_crew, nm_above_crew, nm_check_moment_crew, nm_with_look_crew, nm_all_looks_crew, nm_until_crew, nm_renamed_crew, nm_is_pair_crew, nm_rows_crew, nm_least_at_crew, nm_most_at_crew, nm_seen_crew, nm_folk_crew, nm_shown_crew, nm_notes_crew, nm_count_crew, nm_total_crew, nm_look_crew, nm_undo_crew, nm_copy_crew, nm_sight_crew, nm_players_seen, nm_moments_seen, nm_tops_seen, nm_above_seen, nm_check_moment_seen, nm_with_look_seen, nm_all_looks_seen, nm_until_seen, nm_renamed_seen, nm_is_pair_seen, nm_rows_seen, nm_least_at_seen, nm_most_at_seen, nm_crew_seen, nm_folk_seen, nm_shown_seen, nm_notes_seen, nm_count_seen, nm_total_seen, nm_look_seen, nm_undo_seen, nm_copy_seen, nm_sight_seen, nm_players_folk, nm_moments_folk, nm_tops_folk, nm_above_folk, nm_check_moment_folk, nm_with_look_folk, nm_all_looks_folk, nm_until_folk, nm_renamed_folk, nm_is_pair_folk, nm_rows_folk, nm_least_at_folk, nm_most_at_folk, nm_crew_folk, nm_seen_folk, nm_shown_folk, nm_notes_folk, nm_count_folk, nm_total_folk, nm_look_folk, nm_undo_folk, nm_copy_folk, nm_sight_folk, nm_players_shown, nm_moments_shown, nm_tops_shown, nm_above_shown, nm_check_moment_shown, nm_with_look_shown, nm_all_looks_shown, nm_until_shown, nm_renamed_shown, nm_is_pair_shown, nm_rows_shown, nm_least_at_shown, nm_most_at_shown, nm_crew_shown, nm_seen_shown, nm_folk_shown, nm_notes_shown, nm_count_shown, nm_total_shown, nm_look_shown, nm_undo_shown, nm_copy_shown, nm_sight_shown, nm_players_notes, nm_moments_notes, nm_tops_notes, nm_above_notes, nm_check_moment_notes, nm_with_look_notes, nm_all_looks_notes, nm_until_notes, nm_renamed_notes, nm_is_pair_notes, nm_rows_notes, nm_least_at_notes, nm_most_at_notes, nm_crew_notes, nm_seen_notes, nm_folk_notes, nm_shown_notes, nm_count_notes, nm_total_notes, nm_look_notes, nm_undo_notes, nm_copy_notes, nm_sight_notes,  Nat.reduceAdd, Nat.reduceSub, Nat.reduceLT, Nat.reduceLeDiff, Nat.reduceMul, Nat.reduceEqDiff, Nat.zero_add, Nat.add_zero, Nat.lt_add_left_iff_pos, Nat.le_add_left, Nat.zero_le, Nat.zero_lt_succ, Nat.succ_lt_succ_iff,  Cn.l.injEq, Cn.k.injEq, true_and, and_true, exists_eq', exists_eq_left', Option.some.injEq, Option.map_some, Option.map_none, Option.bind_some, Option.isSome_some, Option.isSome_none,  decide_eq_true_eq, Bool.false_eq_true, Bool.not_eq_true', Bool.not_true, Bool.not_false, Bool.not_not, Bool.true_xor, Bool.false_xor, decide_eq_false_iff_not, if_true, if_false, ite_true, ite_false, reduceIte, reduceCtorEq, decide_true, decide_false, decide_not, and_self, eq_self, ne_eq, not_true, not_false_eq_true, exists_const, and_imp, beq_self_eq_true])
local macro_rules | `(tactic| walk_at "ws") => `(tactic| repeat (first | refine kont_intro ?_ | refine kontG_intro ?_ | walk_at "w1"))
def errL (K : PySem.W.Frag) (x : D) : List D := [.err (ad K "InvalidName") "value" x, .err (ad K "InvalidNumber") "value" x, .err (ad K "InvalidList") "value" x, .err (ad K "InvalidLook") "value" x, .err (ad K "InvalidSight") "value" x,
  .err (ad K "Late") "value" x, .err (ad K "InvalidText") "spot" x, .err (ad K "Unknown") "which" x]
def eightD (x : D) : List D := [x, x, x, x, x, x, x, x]
theorem sEqX_eight {neg : Bool} {x : D} {Q : SD → Prop} (h : geqN 10 x x = some true) : sEqX neg (.lst (eightD x)) (.lst (eightD x)) Q = Q (.d (.bl (neg ^^ true))) := by
  have e : geqT (.lst (eightD x)) (.lst (eightD x)) = some true := by
    unfold geqT
    cases p : plainEq (.lst (eightD x)) (.lst (eightD x)) with
    | some b => rw [plainEq_self p]
    | none => simp only [eightD, allO, h, if_true, Bool.and_self]
  unfold sEqX
  rw [e]
def ds_l_placed (K : PySem.W.Frag) : DSp := fun α Q _ => ∃ x : D, α = [some (.d x)] ∧ Q (.o (.l (errL K x))) α
theorem len_l_placed (K : PySem.W.Frag) (α : Dl) (Q : SD → Dl → Prop) (E : XQ) (h : ds_l_placed K α Q E) : α.length = 1 ∧ ∀ (i : Nat) (c : Cn), α[i]? ≠ some (some (.o c)) := by
  obtain ⟨x, rfl, _⟩ := h
  exact lenOf rfl rfl
theorem law_l_placed (K : PySem.W.Frag) (α : Dl) (Q : SD → Dl → Prop) (E : XQ) (h : ds_l_placed K α Q E) : ws_l_placed (ad K "InvalidSight") (ad K "InvalidLook") (ad K "InvalidList") (ad K "InvalidNumber") (ad K "InvalidName") (ad K "Unknown") (ad K "InvalidText") (ad K "Late") { nx := finD α Q (.d .non), rt := finD α Q } (finE α E) (startD N_l_placed α) := by
  obtain ⟨x, rfl, hq⟩ := h
  unfold ws_l_placed ws_l_placed_t1
  walk_at "wp"
  exact hq
def ds_l_named (K : PySem.W.Frag) : DSp := fun α Q _ => ∃ x : D, α = [some (.d x)] ∧ Q (.o (.l (errL K x))) α
theorem len_l_named (K : PySem.W.Frag) (α : Dl) (Q : SD → Dl → Prop) (E : XQ) (h : ds_l_named K α Q E) : α.length = 1 ∧ ∀ (i : Nat) (c : Cn), α[i]? ≠ some (some (.o c)) := by
  obtain ⟨x, rfl, _⟩ := h
  exact lenOf rfl rfl
theorem law_l_named (K : PySem.W.Frag) (α : Dl) (Q : SD → Dl → Prop) (E : XQ) (h : ds_l_named K α Q E) : ws_l_named (ad K "InvalidLook") (ad K "InvalidList") (ad K "InvalidNumber") (ad K "InvalidName") (ad K "Unknown") (ad K "InvalidText") (ad K "Late") (ad K "InvalidSight") { nx := finD α Q (.d .non), rt := finD α Q } (finE α E) (startD N_l_named α) := by
  obtain ⟨x, rfl, hq⟩ := h
  unfold ws_l_named ws_l_named_t1
  walk_at "wp"
  exact hq
def ds_l_bare (K : PySem.W.Frag) : DSp := fun α Q _ => α = [] ∧ Q (.o (.l (errL K .non))) α
theorem len_l_bare (K : PySem.W.Frag) (α : Dl) (Q : SD → Dl → Prop) (E : XQ) (h : ds_l_bare K α Q E) : α.length = 0 ∧ ∀ (i : Nat) (c : Cn), α[i]? ≠ some (some (.o c)) := by
  obtain ⟨rfl, _⟩ := h
  exact ⟨rfl, fun i c => by simp⟩
theorem law_l_bare (K : PySem.W.Frag) (α : Dl) (Q : SD → Dl → Prop) (E : XQ) (h : ds_l_bare K α Q E) : ws_l_bare (ad K "InvalidSight") (ad K "InvalidLook") (ad K "InvalidList") (ad K "InvalidNumber") (ad K "InvalidName") (ad K "Unknown") (ad K "InvalidText") (ad K "Late") { nx := finD α Q (.d .non), rt := finD α Q } (finE α E) (startD N_l_bare α) := by
  obtain ⟨rfl, hq⟩ := h
  unfold ws_l_bare ws_l_bare_t1
  walk_at "wp"
  exact hq
def ds_l_fields (K : PySem.W.Frag) : DSp := fun α Q _ => ∃ x : D, α = [some (.d (.lst (errL K x)))] ∧ Q (.o (.l (eightD x))) α
theorem len_l_fields (K : PySem.W.Frag) (α : Dl) (Q : SD → Dl → Prop) (E : XQ) (h : ds_l_fields K α Q E) : α.length = 1 ∧ ∀ (i : Nat) (c : Cn), α[i]? ≠ some (some (.o c)) := by
  obtain ⟨x, rfl, _⟩ := h
  exact lenOf rfl rfl
theorem law_l_fields (K : PySem.W.Frag) (α : Dl) (Q : SD → Dl → Prop) (E : XQ) (h : ds_l_fields K α Q E) : ws_l_fields (ad K "InvalidName") (ad K "InvalidNumber") (ad K "InvalidList") (ad K "InvalidLook") (ad K "InvalidSight") (ad K "Late") (ad K "Unknown") (ad K "InvalidText") { nx := finD α Q (.d .non), rt := finD α Q } (finE α E) (startD N_l_fields α) := by
  obtain ⟨x, rfl, hq⟩ := h
  unfold ws_l_fields
  walk_at "wp"
  refine lc_map [ad K "InvalidName", ad K "InvalidNumber", ad K "InvalidList", ad K "InvalidLook", ad K "InvalidSight", ad K "Late"] (fun C => .err C "value" x) (fun _ => ()) (fun _ => x) (fun Q h => by walk_at "wp"; exact h) (by show 6 < 16777216; decide) (okW_of rfl) (fun C hC R S hR => ?_) ?_
  · walk_at "wp"
    exact ⟨hC, hR⟩
  · walk_at "wp"
    have e6 : atI (errL K x) 6 = some (.err (ad K "InvalidText") "spot" x) := rfl
    have e7 : atI (errL K x) 7 = some (.err (ad K "Unknown") "which" x) := rfl
    rw [e6, e7]
    walk_at "wp"
    exact ⟨List.mem_cons_self, List.mem_cons_self, hq⟩
def clsL (K : PySem.W.Frag) : List Addr := [ad K "InvalidName", ad K "InvalidNumber", ad K "InvalidList", ad K "InvalidLook", ad K "InvalidSight", ad K "Late", ad K "InvalidText", ad K "Unknown"]
def kindL (K : PySem.W.Frag) (C : Addr) : List D := (clsL K).map fun c => .bl (decide (C = c))
def ds_l_kinds (K : PySem.W.Frag) : DSp := fun α Q _ => ∃ (C : Addr) (f : Str) (x : D), α = [some (.d (.err C f x))] ∧ C ∈ clsL K ∧ Q (.o (.l (kindL K C))) α
theorem len_l_kinds (K : PySem.W.Frag) (α : Dl) (Q : SD → Dl → Prop) (E : XQ) (h : ds_l_kinds K α Q E) : α.length = 1 ∧ ∀ (i : Nat) (c : Cn), α[i]? ≠ some (some (.o c)) := by
  obtain ⟨C, f, x, rfl, _⟩ := h
  exact lenOf rfl rfl
theorem law_l_kinds (K : PySem.W.Frag) (α : Dl) (Q : SD → Dl → Prop) (E : XQ) (h : ds_l_kinds K α Q E) : ws_l_kinds (ad K "InvalidName") (ad K "InvalidNumber") (ad K "InvalidList") (ad K "InvalidLook") (ad K "InvalidSight") (ad K "Late") (ad K "InvalidText") (ad K "Unknown") { nx := finD α Q (.d .non), rt := finD α Q } (finE α E) (startD N_l_kinds α) := by
  obtain ⟨C, f, x, rfl, hC, hq⟩ := h
  unfold ws_l_kinds ws_l_kinds_t1 ws_l_kinds_t2
  unfold clsL at hC
  walk_at "w1"
  refine ⟨hC, hC, hC, kont_intro ?_⟩
  walk_at "w1"
  refine ⟨hC, hC, hC, kont_intro ?_⟩
  walk_at "w1"
  exact ⟨hC, hC, hq⟩
def ds_law_2 (K : PySem.W.Frag) : DSp := fun α Q _ => ∃ ns : List Int, α = [some (.d (.scr ns))] ∧ Q (.d (.bl true)) α
theorem len_law_2 (K : PySem.W.Frag) (α : Dl) (Q : SD → Dl → Prop) (E : XQ) (h : ds_law_2 K α Q E) : α.length = 1 ∧ ∀ (i : Nat) (c : Cn), α[i]? ≠ some (some (.o c)) := by
  obtain ⟨s, rfl, _⟩ := h
  exact lenOf rfl rfl
def others01 : List D := [.str "", .int 0, .str "a", .bl false, .tup [.int 1], .dic [], .tup [], .tup [.int 1, .int 2], .tup [.str "a", .non, .lst [.int 0]]]
theorem geq_ok01 {y : D} (h : eqOk y = true) : geqN 10 y y = some true := by
  unfold geqN plainEq
  rw [if_pos (by rw [h] <;> rfl), deq_refl h]
theorem geq_other01 : ∀ x ∈ others01, geqN 10 x x = some true := by
  intro x hx
  have ok : ∀ {y : D}, eqOk y = true → geqN 10 y y = some true := fun {y} h => by
    unfold geqN plainEq
    rw [if_pos (by rw [h] <;> rfl), deq_refl h]
  simp only [others01, List.mem_cons, List.not_mem_nil, or_false] at hx
  rcases hx with rfl | rfl | rfl | rfl | rfl | rfl | rfl | rfl | rfl
  · exact ok rfl
  · exact ok rfl
  · exact ok rfl
  · exact ok rfl
  · exact ok rfl
  · rfl
  · exact ok rfl
  · exact ok rfl
  · exact ok rfl
theorem lds_err {G : Rg} {K : PySem.W.Frag} {x y : D} (h : LD G x y) : LD G (.lst (errL K x)) (.lst (errL K y)) :=
  .lst (.cons (.err h) (.cons (.err h) (.cons (.err h) (.cons (.err h) (.cons (.err h) (.cons (.err h) (.cons (.err h) (.cons (.err h) .nil))))))))
theorem lds_same01 {G : Rg} : ∀ xs : List D, LDs G xs xs
  | [] => .nil
  | x :: xs => .cons (.same x) (lds_same01 xs)
theorem bnd8 : (-2 ^ 63 : Int) ≤ 8 ∧ (8 : Int) < 2 ^ 63 ∧ 1 * Int.toNat 8 ≤ 16777216 := ⟨by decide, by decide, by decide⟩
theorem rep8 (x : D) : (List.replicate (Int.toNat 8) [x]).flatten = eightD x := rfl
theorem errL_at {K : PySem.W.Frag} (nd : (clsL K).Nodup) (x : D) : ∀ k : Nat, k < 8 → ∃ (C : Addr) (f : Str), atI (errL K x) (k : Int) = some (.err C f x) ∧ C ∈ clsL K ∧ kindL K C = (List.range 8).map fun (j : Nat) => .bl (decide ((j : Int) = (k : Int))) := by
  have key : ∀ k : Nat, k < 8 → ∀ C, (clsL K)[k]? = some C → kindL K C = (List.range 8).map fun (j : Nat) => D.bl (decide ((j : Int) = (k : Int))) := fun k hk C hC => by
    refine List.ext_getElem? fun j => ?_
    unfold kindL
    rw [List.getElem?_map, List.getElem?_map]
    by_cases hj : j < 8
    · have e1 : (List.range 8)[j]? = some j := by rw [List.getElem?_eq_getElem (by rw [List.length_range]; exact hj), List.getElem_range]
      obtain ⟨D', hD⟩ : ∃ D', (clsL K)[j]? = some D' := ⟨_, List.getElem?_eq_getElem (show j < (clsL K).length from hj)⟩
      rw [e1, hD, Option.map_some, Option.map_some]
      congr 2
      rw [decide_eq_decide]
      constructor
      · rintro rfl
        have := (List.getElem?_inj (show k < (clsL K).length from hk) nd).mp (hC.trans hD.symm)
        rw [this]
      · intro e
        have : j = k := by omega
        subst this
        rw [hC] at hD
        cases hD
        rfl
    · rw [List.getElem?_eq_none (show (clsL K).length ≤ j by show 8 ≤ j; omega), List.getElem?_eq_none (by rw [List.length_range]; omega)]
      rfl
  intro k hk
  have mem : ∀ {i : Nat} {C}, (clsL K)[i]? = some C → C ∈ clsL K := fun h => List.mem_of_getElem? h
  match k, hk with
  | 0, h => exact ⟨_, _, rfl, mem (i := 0) rfl, key 0 h _ rfl⟩
  | 1, h => exact ⟨_, _, rfl, mem (i := 1) rfl, key 1 h _ rfl⟩
  | 2, h => exact ⟨_, _, rfl, mem (i := 2) rfl, key 2 h _ rfl⟩
  | 3, h => exact ⟨_, _, rfl, mem (i := 3) rfl, key 3 h _ rfl⟩
  | 4, h => exact ⟨_, _, rfl, mem (i := 4) rfl, key 4 h _ rfl⟩
  | 5, h => exact ⟨_, _, rfl, mem (i := 5) rfl, key 5 h _ rfl⟩
  | 6, h => exact ⟨_, _, rfl, mem (i := 6) rfl, key 6 h _ rfl⟩
  | 7, h => exact ⟨_, _, rfl, mem (i := 7) rfl, key 7 h _ rfl⟩
abbrev Nd8 (K : PySem.W.Frag) : Prop := (clsL K).Nodup
theorem law_law_2 (K : PySem.W.Frag) (nd : Nd8 K) (α : Dl) (Q : SD → Dl → Prop) (E : XQ) (h : ds_law_2 K α Q E) :
    ws_law_2 ds_l_pump ds_l_cup (ds_l_named K) (ds_l_placed K) (ds_l_bare K) (ds_l_fields K) (ds_l_kinds K) (ad K "InvalidName") (ad K "InvalidNumber") (ad K "InvalidList") (ad K "InvalidLook") (ad K "InvalidSight") (ad K "Late") (ad K "InvalidText") (ad K "Unknown") (ad K "TopsError")
      { nx := finD α Q (.d .non), rt := finD α Q } (finE α E) (startD N_law_2 α) := by
  obtain ⟨ns, rfl, q⟩ := h
  unfold ws_law_2
  walk_at "w1"
  refine ⟨ns, 0, rfl, by decide, by decide, fun n => ?_⟩
  walk_at "w1"
  refine kontG_intro ?_
  unfold ws_law_2_t1 wNewG
  walk_at "w1"
  refine ⟨⟨by decide, by decide, by decide⟩, n, _, rfl, by decide, by decide +kernel, fun a na => ?_⟩
  refine kontG_intro ?_
  unfold ws_law_2_t2
  walk_at "w1"
  refine use_cup (by decide) (by decide) fun n2 i i0 i1 => ?_
  walk_at "w1"
  obtain ⟨z, hz, ez⟩ : ∃ z ∈ others01, atI others01 i = some z := by
    have : i = 0 ∨ i = 1 ∨ i = 2 ∨ i = 3 ∨ i = 4 ∨ i = 5 ∨ i = 6 ∨ i = 7 ∨ i = 8 := by omega
    rcases this with rfl | rfl | rfl | rfl | rfl | rfl | rfl | rfl | rfl <;> exact ⟨_, by simp only [others01, List.mem_cons, true_or, or_true], rfl⟩
  have gz := geq_other01 z hz
  unfold others01 at ez
  rw [ez]
  refine kontG_intro ?_
  generalize n % 10 ^ Int.toNat 9 = m
  clear ez i0 i1 hz
  unfold ws_law_2_t3
  walk_at "w1"
  refine ⟨_, rfl, ?_⟩
  walk_at "w1"
  refine ⟨_, rfl, ?_⟩
  walk_at "w1"
  refine ⟨_, _, rfl, kontG_intro ?_⟩
  unfold ws_law_2_t4
  walk_at "w1"
  refine ⟨_, rfl, ?_⟩
  walk_at "w1"
  refine ⟨rfl, ?_⟩
  walk_at "w1"
  refine kontG_intro ?_
  unfold ws_law_2_t5
  walk_at "w1"
  unfold wForG
  walk_at "w1"
  have gc : ∀ (c : List D), eqOk (.lst c) = true → geqN 10 (.lst c) (.lst c) = some true := fun c h => geq_ok01 h
  refine ⟨fun j δ G => G = [(a, [.int m, .lst [.str "x"]])] ∧ ∃ r8, δ = [some (.d (.scr ns)), some (.o (.l [.int n2])), some (.d (.vv (.ref a))), some (.d z), some (.d (.lst (errL K (.vv (.ref a))))), some (.d (.lst (errL K (.vv (.ref a))))), some (.o (.l (errL K z))), some (.o (.l (errL K .non))), r8, none, none, none], ⟨rfl, _, rfl⟩, ?_, ?_⟩
  · rintro j d δ G hd ⟨rfl, r8, rfl⟩
    have ed : d = .lst (errL K (.vv (.ref a))) := by
      match j, hd with
      | 0, hd => cases hd; rfl
      | 1, hd => cases hd; rfl
    subst ed
    unfold ws_law_2_gb1
    walk_at "w1"
    have lc : LD [(a, [D.int m, D.lst [D.str "x"]])] (.vv (.ref a)) (.lst [.int m, .lst [.str "x"]]) := .cell List.mem_cons_self (lds_same01 _)
    refine ⟨[none, none, some (.d (.lst [.int m, .lst [.str "x"]])), none, none, none, none, none, some (.d (.lst (errL K (.lst [.int m, .lst [.str "x"]])))), none, none, none],
      .hide (.hide (.d lc (.hide (.hide (.hide (.hide (.hide (.d (lds_err lc) (.hide (.hide (.hide .nil))))))))))), ?_⟩
    walk_at "w1"
    refine ⟨_, rfl, ?_⟩
    walk_at "w1"
    refine ⟨bnd8, ?_⟩
    rw [rep8, sEqX_eight (gc _ rfl)]
    walk_at "w1"
    exact ⟨_, rfl⟩
  · rintro δ G ⟨rfl, r8, rfl⟩
    refine kontG_intro ?_
    unfold ws_law_2_t6
    walk_at "w1"
    unfold wAppG
    walk_at "w1"
    refine ⟨List.mem_cons_self, [], [], _, _, rfl, by show 2 < 16777216; decide, .refl _, ?_⟩
    refine kontG_intro ?_
    unfold ws_law_2_t7
    walk_at "w1"
    have lc : LD [(a, [D.int m, D.lst [D.str "x"], D.str "later"])] (.vv (.ref a)) (.lst [.int m, .lst [.str "x"], .str "later"]) := .cell List.mem_cons_self (lds_same01 _)
    refine ⟨[none, none, some (.d (.lst [.int m, .lst [.str "x"], .str "later"])), none, some (.d (.lst (errL K (.lst [.int m, .lst [.str "x"], .str "later"])))), some (.d (.lst (errL K (.lst [.int m, .lst [.str "x"], .str "later"])))), none, none, none, none, none, none],
      .hide (.hide (.d lc (.hide (.d (lds_err lc) (.d (lds_err lc) (.hide (.hide (.hide (.hide (.hide (.hide .nil))))))))))), ?_⟩
    walk_at "w1"
    refine ⟨_, rfl, ?_⟩
    walk_at "w1"
    refine ⟨bnd8, ?_⟩
    rw [rep8, sEqX_eight (gc _ rfl)]
    walk_at "w1"
    refine ⟨_, rfl, ?_⟩
    walk_at "w1"
    refine ⟨bnd8, ?_⟩
    rw [sEqX_eight (gc _ rfl)]
    walk_at "w1"
    refine kontG_intro ?_
    unfold ws_law_2_t8
    walk_at "w1"
    refine ⟨[none, none, none, some (.d z), none, none, some (.d (.lst (errL K z))), some (.d (.lst (errL K .non))), none, none, none, none],
      .hide (.hide (.hide (.d (.same _) (.hide (.hide (.o (.same _) (.o (.same _) (.hide (.hide (.hide (.hide .nil))))))))))), ?_⟩
    walk_at "w1"
    refine ⟨_, rfl, ?_⟩
    walk_at "w1"
    refine ⟨bnd8, ?_⟩
    rw [rep8, sEqX_eight gz]
    walk_at "w1"
    refine ⟨_, rfl, ?_⟩
    walk_at "w1"
    refine ⟨bnd8, ?_⟩
    rw [rep8, sEqX_eight (geq_ok01 rfl)]
    walk_at "w1"
    refine kontG_intro ?_
    unfold ws_law_2_t9
    walk_at "w1"
    refine for_map [D.tup [], .tup [.int 1, .int 2], .tup [.str "a", .non]] id (fun _ δ => ∃ r8 r9, δ = [some (.d (.scr ns)), some (.o (.l [.int n2])), some (.d (.vv (.ref a))), some (.d z), some (.d (.lst (errL K (.vv (.ref a))))), some (.d (.lst (errL K (.vv (.ref a))))), some (.o (.l (errL K z))), some (.o (.l (errL K .non))), r8, r9, none, none])
      (fun Q h => by walk_at "w1"; exact h) ⟨_, _, rfl⟩ ?_ ?_
    · rintro pre y post δ' ex ⟨r8, r9, rfl⟩
      have gy : geqN 10 y y = some true := by
        have : y ∈ [D.tup [], .tup [.int 1, .int 2], .tup [.str "a", .non]] := by rw [ex]; simp
        simp only [List.mem_cons, List.not_mem_nil, or_false] at this
        rcases this with rfl | rfl | rfl <;> exact geq_ok01 rfl
      clear ex
      unfold ws_law_2_b1
      simp only [id]
      walk_at "w1"
      refine ⟨_, rfl, ?_⟩
      walk_at "w1"
      refine ⟨_, rfl, ?_⟩
      walk_at "w1"
      refine ⟨bnd8, ?_⟩
      rw [rep8, sEqX_eight gy]
      walk_at "w1"
      refine ⟨_, rfl, ?_⟩
      walk_at "w1"
      refine ⟨_, rfl, ?_⟩
      walk_at "w1"
      refine ⟨bnd8, ?_⟩
      rw [sEqX_eight gy]
      walk_at "w1"
      exact ⟨_, _, rfl⟩
    rintro δ' ⟨r8, r9, rfl⟩
    refine kontG_intro ?_
    unfold ws_law_2_t10
    walk_at "w1"
    refine for_map [D.vv (.ref a), .vv (.ref a), z, .non] (fun x => .lst (errL K x)) (fun _ δ => ∃ r8 r10, δ = [some (.d (.scr ns)), some (.o (.l [.int n2])), some (.d (.vv (.ref a))), some (.d z), some (.d (.lst (errL K (.vv (.ref a))))), some (.d (.lst (errL K (.vv (.ref a))))), some (.d (.lst (errL K z))), some (.d (.lst (errL K .non))), r8, r9, r10, none])
      (fun Q h => by walk_at "w1"; exact h) ⟨_, _, rfl⟩ ?_ ?_
    · rintro pre y post δ' ex ⟨r8, r10, rfl⟩
      clear ex
      unfold ws_law_2_b3
      walk_at "w1"
      refine for_rng 8 (fun _ δ => ∃ r10, δ = [some (.d (.scr ns)), some (.o (.l [.int n2])), some (.d (.vv (.ref a))), some (.d z), some (.d (.lst (errL K (.vv (.ref a))))), some (.d (.lst (errL K (.vv (.ref a))))), some (.d (.lst (errL K z))), some (.d (.lst (errL K .non))), some (.d (.lst (errL K y))), r9, r10, none])
        (fun Q h => by walk_at "wp"; exact ⟨⟨by decide, by decide⟩, h⟩) ⟨_, rfl⟩ ?_ ?_
      · rintro k δ' hk ⟨r10, rfl⟩
        obtain ⟨C, f, e1, hC, e2⟩ := errL_at nd y k hk
        have hC2 := hC
        unfold clsL at hC2
        unfold ws_law_2_b2
        walk_at "w1"
        rw [e1]
        walk_at "w1"
        refine ⟨hC2, hC2, kont_intro ?_⟩
        walk_at "w1"
        rw [e1]
        walk_at "w1"
        refine ⟨C, f, y, rfl, hC, ?_⟩
        walk_at "w1"
        refine lc_map (List.range 8) (fun j => .int ((j : Nat) : Int)) (fun j => decide (((j : Nat) : Int) = (k : Int))) .bl (fun Q h => by walk_at "wp"; exact ⟨⟨by decide, by decide⟩, h⟩) (by decide) (okW_of rfl) (fun j hj R S hR => ?_) ?_
        · walk_at "wp"
          exact hR
        · walk_at "w1"
          have e3 : ((List.range 8).map fun (j : Nat) => decide ((j : Int) = (k : Int))).map D.bl = kindL K C := by
            rw [e2, List.map_map]
            rfl
          have e4 : eqOk (.lst (kindL K C)) = true := by
            unfold kindL clsL
            rfl
          rw [e3, sEqX_ok e4 e4, deq_refl e4]
          walk_at "w1"
          exact ⟨_, rfl⟩
      · rintro δ' ⟨r10, rfl⟩
        exact ⟨_, _, rfl⟩
    · rintro δ' ⟨r8, r10, rfl⟩
      refine kontG_intro ?_
      unfold ws_law_2_t11
      walk_at "w1"
      exact q
end Sp
namespace Lk01
open PySem PySem.Spec L2 DL Sp He Hd
theorem tx_InvalidLook : ErrT PySem.Challenge.pw_seentops_k01_errors_made er_InvalidLook := ⟨⟨by decide +kernel, by decide +kernel, by decide +kernel, by decide +kernel, by decide +kernel, by decide +kernel⟩, ⟨_, _, _, _, _, _, _, _, _, _, _, _, rfl, rfl, rfl, ⟨_, fun _ => rfl⟩, ⟨fun _ => rfl, fun _ => rfl⟩, fun _ _ _ _ _ _ _ _ us its hu hi => match us, its, hu, hi with | [_, _], [_], _, _ => ⟨_, rfl, rfl⟩⟩, by decide +kernel⟩
theorem tx_InvalidList : ErrT PySem.Challenge.pw_seentops_k01_errors_made er_InvalidList := ⟨⟨by decide +kernel, by decide +kernel, by decide +kernel, by decide +kernel, by decide +kernel, by decide +kernel⟩, ⟨_, _, _, _, _, _, _, _, _, _, _, _, rfl, rfl, rfl, ⟨_, fun _ => rfl⟩, ⟨fun _ => rfl, fun _ => rfl⟩, fun _ _ _ _ _ _ _ _ us its hu hi => match us, its, hu, hi with | [_, _], [_], _, _ => ⟨_, rfl, rfl⟩⟩, by decide +kernel⟩
theorem tx_InvalidNumber : ErrT PySem.Challenge.pw_seentops_k01_errors_made er_InvalidNumber := ⟨⟨by decide +kernel, by decide +kernel, by decide +kernel, by decide +kernel, by decide +kernel, by decide +kernel⟩, ⟨_, _, _, _, _, _, _, _, _, _, _, _, rfl, rfl, rfl, ⟨_, fun _ => rfl⟩, ⟨fun _ => rfl, fun _ => rfl⟩, fun _ _ _ _ _ _ _ _ us its hu hi => match us, its, hu, hi with | [_, _], [_], _, _ => ⟨_, rfl, rfl⟩⟩, by decide +kernel⟩
theorem tx_InvalidName : ErrT PySem.Challenge.pw_seentops_k01_errors_made er_InvalidName := ⟨⟨by decide +kernel, by decide +kernel, by decide +kernel, by decide +kernel, by decide +kernel, by decide +kernel⟩, ⟨_, _, _, _, _, _, _, _, _, _, _, _, rfl, rfl, rfl, ⟨_, fun _ => rfl⟩, ⟨fun _ => rfl, fun _ => rfl⟩, fun _ _ _ _ _ _ _ _ us its hu hi => match us, its, hu, hi with | [_, _], [_], _, _ => ⟨_, rfl, rfl⟩⟩, by decide +kernel⟩
theorem tx_Unknown : ErrT PySem.Challenge.pw_seentops_k01_errors_made er_Unknown := ⟨⟨by decide +kernel, by decide +kernel, by decide +kernel, by decide +kernel, by decide +kernel, by decide +kernel⟩, ⟨_, _, _, _, _, _, _, _, _, _, _, _, rfl, rfl, rfl, ⟨_, fun _ => rfl⟩, ⟨fun _ => rfl, fun _ => rfl⟩, fun _ _ _ _ _ _ _ _ us its hu hi => match us, its, hu, hi with | [_, _], [_], _, _ => ⟨_, rfl, rfl⟩⟩, by decide +kernel⟩
theorem tx_InvalidText : ErrT PySem.Challenge.pw_seentops_k01_errors_made er_InvalidText := ⟨⟨by decide +kernel, by decide +kernel, by decide +kernel, by decide +kernel, by decide +kernel, by decide +kernel⟩, ⟨_, _, _, _, _, _, _, _, _, _, _, _, rfl, rfl, rfl, ⟨_, fun _ => rfl⟩, ⟨fun _ => rfl, fun _ => rfl⟩, fun _ _ _ _ _ _ _ _ us its hu hi => match us, its, hu, hi with | [_, _], [_], _, _ => ⟨_, rfl, rfl⟩⟩, by decide +kernel⟩
theorem tx_Late : ErrT PySem.Challenge.pw_seentops_k01_errors_made er_Late := ⟨⟨by decide +kernel, by decide +kernel, by decide +kernel, by decide +kernel, by decide +kernel, by decide +kernel⟩, ⟨_, _, _, _, _, _, _, _, _, _, _, _, rfl, rfl, rfl, ⟨_, fun _ => rfl⟩, ⟨fun _ => rfl, fun _ => rfl⟩, fun _ _ _ _ _ _ _ _ us its hu hi => match us, its, hu, hi with | [_, _], [_], _, _ => ⟨_, rfl, rfl⟩⟩, by decide +kernel⟩
theorem tx_InvalidSight : ErrT PySem.Challenge.pw_seentops_k01_errors_made er_InvalidSight := ⟨⟨by decide +kernel, by decide +kernel, by decide +kernel, by decide +kernel, by decide +kernel, by decide +kernel⟩, ⟨_, _, _, _, _, _, _, _, _, _, _, _, rfl, rfl, rfl, ⟨_, fun _ => rfl⟩, ⟨fun _ => rfl, fun _ => rfl⟩, fun _ _ _ _ _ _ _ _ us its hu hi => match us, its, hu, hi with | [_, _], [_], _, _ => ⟨_, rfl, rfl⟩⟩, by decide +kernel⟩
theorem ty_InvalidLook : ErrT2 er_InvalidLook := ⟨fun _ _ _ _ _ _ _ _ us ws its h1 h2 h3 => match us, ws, its, h1, h2, h3 with | [_], [_], [_], _, _, _ => ⟨_, rfl, rfl⟩, fun _ _ _ _ _ _ _ _ us its h1 h2 => match us, its, h1, h2 with | [_], [_], _, _ => ⟨_, rfl, rfl⟩⟩
theorem ty_InvalidList : ErrT2 er_InvalidList := ⟨fun _ _ _ _ _ _ _ _ us ws its h1 h2 h3 => match us, ws, its, h1, h2, h3 with | [_], [_], [_], _, _, _ => ⟨_, rfl, rfl⟩, fun _ _ _ _ _ _ _ _ us its h1 h2 => match us, its, h1, h2 with | [_], [_], _, _ => ⟨_, rfl, rfl⟩⟩
theorem ty_InvalidNumber : ErrT2 er_InvalidNumber := ⟨fun _ _ _ _ _ _ _ _ us ws its h1 h2 h3 => match us, ws, its, h1, h2, h3 with | [_], [_], [_], _, _, _ => ⟨_, rfl, rfl⟩, fun _ _ _ _ _ _ _ _ us its h1 h2 => match us, its, h1, h2 with | [_], [_], _, _ => ⟨_, rfl, rfl⟩⟩
theorem ty_InvalidName : ErrT2 er_InvalidName := ⟨fun _ _ _ _ _ _ _ _ us ws its h1 h2 h3 => match us, ws, its, h1, h2, h3 with | [_], [_], [_], _, _, _ => ⟨_, rfl, rfl⟩, fun _ _ _ _ _ _ _ _ us its h1 h2 => match us, its, h1, h2 with | [_], [_], _, _ => ⟨_, rfl, rfl⟩⟩
theorem ty_Unknown : ErrT2 er_Unknown := ⟨fun _ _ _ _ _ _ _ _ us ws its h1 h2 h3 => match us, ws, its, h1, h2, h3 with | [_], [_], [_], _, _, _ => ⟨_, rfl, rfl⟩, fun _ _ _ _ _ _ _ _ us its h1 h2 => match us, its, h1, h2 with | [_], [_], _, _ => ⟨_, rfl, rfl⟩⟩
theorem ty_InvalidText : ErrT2 er_InvalidText := ⟨fun _ _ _ _ _ _ _ _ us ws its h1 h2 h3 => match us, ws, its, h1, h2, h3 with | [_], [_], [_], _, _, _ => ⟨_, rfl, rfl⟩, fun _ _ _ _ _ _ _ _ us its h1 h2 => match us, its, h1, h2 with | [_], [_], _, _ => ⟨_, rfl, rfl⟩⟩
theorem ty_Late : ErrT2 er_Late := ⟨fun _ _ _ _ _ _ _ _ us ws its h1 h2 h3 => match us, ws, its, h1, h2, h3 with | [_], [_], [_], _, _, _ => ⟨_, rfl, rfl⟩, fun _ _ _ _ _ _ _ _ us its h1 h2 => match us, its, h1, h2 with | [_], [_], _, _ => ⟨_, rfl, rfl⟩⟩
theorem ty_InvalidSight : ErrT2 er_InvalidSight := ⟨fun _ _ _ _ _ _ _ _ us ws its h1 h2 h3 => match us, ws, its, h1, h2, h3 with | [_], [_], [_], _, _, _ => ⟨_, rfl, rfl⟩, fun _ _ _ _ _ _ _ _ us its h1 h2 => match us, its, h1, h2 with | [_], [_], _, _ => ⟨_, rfl, rfl⟩⟩
theorem more {P : Program} {K : PySem.W.Frag} (c : SaysH P fa fn er ex K) (i : Nat) {b : Bool} (h : (exs K)[i]? = some b) : b = true := List.all_eq_true.mp c.more b (List.mem_of_getElem? h)
theorem facts {w : World} {K : PySem.W.Frag} {h : Heap} {mg : Str → Option Value} {f : Addr} (X : K.In h) (G : h.Ns mainGlobals mg) (hfa : mg ("law" : Str) = some (.ref f)) (c : SaysH PySem.Challenge.pw_seentops_k01_errors_made fa fn er ex K) :
    ∃ fd : FuncData, (∀ (s : Shared) (v : Value), BindsTo s fd ⟨[v], []⟩ [("_law_script", v)]) ∧ ∀ base : Heap, FnOk PySem.Challenge.pw_seentops_k01_errors_made w K mg base (L2.CX PySem.Challenge.pw_seentops_k01_errors_made w) 2 f fd ["_law_script"] (toSp K (ds_law_2 K)) := by
  have n_len := free_ok X G (c.d.fact 0 rfl)
  have n_int := free_ok X G (c.d.fact 1 rfl)
  have n_range := free_ok X G (c.d.fact 2 rfl)
  have m_InvalidList := glo_ok X G (c.d.fact 3 rfl)
  have n_isinstance := free_ok X G (c.d.fact 4 rfl)
  have m_InvalidNumber := glo_ok X G (c.d.fact 5 rfl)
  have m_InvalidName := glo_ok X G (c.d.fact 6 rfl)
  have m_Late := glo_ok X G (c.d.fact 7 rfl)
  have m_InvalidSight := glo_ok X G (c.d.fact 8 rfl)
  have m_InvalidLook := glo_ok X G (c.d.fact 9 rfl)
  have m_Unknown := glo_ok X G (c.d.fact 10 rfl)
  have m_InvalidText := glo_ok X G (c.d.fact 11 rfl)
  have m__law_pump := glo_ok X G (c.d.fact 12 rfl)
  have m__law_cup := glo_ok X G (c.d.fact 13 rfl)
  have m__law_named := glo_ok X G (c.d.fact 14 rfl)
  have m__law_placed := glo_ok X G (c.d.fact 15 rfl)
  have m__law_bare := glo_ok X G (c.d.fact 16 rfl)
  have m__law_fields := glo_ok X G (c.d.fact 17 rfl)
  have m__law_kinds := glo_ok X G (c.d.fact 18 rfl)
  have n_ValueError := free_ok X G (c.d.fact 19 rfl)
  have m_TopsError := glo_ok X G (c.d.fact 20 rfl)
  have m_law := glo_ok X G (c.d.fact 21 rfl)
  have ei_InvalidName := (more c 0 rfl)
  have ei_InvalidNumber := (more c 1 rfl)
  have ei_InvalidList := (more c 2 rfl)
  have ei_InvalidLook := (more c 3 rfl)
  have ei_InvalidSight := (more c 4 rfl)
  have ei_Late := (more c 5 rfl)
  have ei_InvalidText := (more c 6 rfl)
  have ei_Unknown := (more c 7 rfl)
  have er_InvalidList := kits_ok (more c 8 rfl)
  have er_InvalidNumber := kits_ok (more c 9 rfl)
  have er_InvalidName := kits_ok (more c 10 rfl)
  have er_Late := kits_ok (more c 11 rfl)
  have er_InvalidSight := kits_ok (more c 12 rfl)
  have er_InvalidLook := kits_ok (more c 13 rfl)
  have er_Unknown := kits_ok (more c 14 rfl)
  have er_InvalidText := kits_ok (more c 15 rfl)
  have er_ValueError := kitAll_ok (more c 16 rfl)
  have er_TopsError := kitAll_ok (more c 17 rfl)
  have nd := apart_ok (more c 18 rfl)
  have e_InvalidLook := isErr_of X G tx_InvalidLook (c.err 0 rfl).1 (c.err 0 rfl).2
  have e_InvalidList := isErr_of X G tx_InvalidList (c.err 1 rfl).1 (c.err 1 rfl).2
  have e_InvalidNumber := isErr_of X G tx_InvalidNumber (c.err 2 rfl).1 (c.err 2 rfl).2
  have e_InvalidName := isErr_of X G tx_InvalidName (c.err 3 rfl).1 (c.err 3 rfl).2
  have e_Unknown := isErr_of X G tx_Unknown (c.err 4 rfl).1 (c.err 4 rfl).2
  have e_InvalidText := isErr_of X G tx_InvalidText (c.err 5 rfl).1 (c.err 5 rfl).2
  have e_Late := isErr_of X G tx_Late (c.err 6 rfl).1 (c.err 6 rfl).2
  have e_InvalidSight := isErr_of X G tx_InvalidSight (c.err 7 rfl).1 (c.err 7 rfl).2
  have ek_InvalidLook := isErrK_of X G tx_InvalidLook ty_InvalidLook (c.err 0 rfl).1 (c.err 0 rfl).2
  have ek_InvalidList := isErrK_of X G tx_InvalidList ty_InvalidList (c.err 1 rfl).1 (c.err 1 rfl).2
  have ek_InvalidNumber := isErrK_of X G tx_InvalidNumber ty_InvalidNumber (c.err 2 rfl).1 (c.err 2 rfl).2
  have ek_InvalidName := isErrK_of X G tx_InvalidName ty_InvalidName (c.err 3 rfl).1 (c.err 3 rfl).2
  have ek_Unknown := isErrK_of X G tx_Unknown ty_Unknown (c.err 4 rfl).1 (c.err 4 rfl).2
  have ek_InvalidText := isErrK_of X G tx_InvalidText ty_InvalidText (c.err 5 rfl).1 (c.err 5 rfl).2
  have ek_Late := isErrK_of X G tx_Late ty_Late (c.err 6 rfl).1 (c.err 6 rfl).2
  have ek_InvalidSight := isErrK_of X G tx_InvalidSight ty_InvalidSight (c.err 7 rfl).1 (c.err 7 rfl).2
  have ef_value : ∀ C ∈ [ga K "InvalidName", ga K "InvalidNumber", ga K "InvalidList", ga K "InvalidLook", ga K "InvalidSight", ga K "Late"], ∃ nm, IsErr PySem.Challenge.pw_seentops_k01_errors_made K mg nm "value" C := by
    intro C hC
    simp only [List.mem_cons, List.not_mem_nil, or_false] at hC
    rcases hC with rfl | rfl | rfl | rfl | rfl | rfl
    · exact ⟨_, isErr_k ek_InvalidName⟩
    · exact ⟨_, isErr_k ek_InvalidNumber⟩
    · exact ⟨_, isErr_k ek_InvalidList⟩
    · exact ⟨_, isErr_k ek_InvalidLook⟩
    · exact ⟨_, isErr_k ek_InvalidSight⟩
    · exact ⟨_, isErr_k ek_Late⟩
  have ef_which : ∀ C ∈ [ga K "Unknown"], ∃ nm, IsErr PySem.Challenge.pw_seentops_k01_errors_made K mg nm "which" C := by
    intro C hC
    simp only [List.mem_cons, List.not_mem_nil, or_false] at hC
    rcases hC with rfl
    · exact ⟨_, isErr_k ek_Unknown⟩
  have ef_spot : ∀ C ∈ [ga K "InvalidText"], ∃ nm, IsErr PySem.Challenge.pw_seentops_k01_errors_made K mg nm "spot" C := by
    intro C hC
    simp only [List.mem_cons, List.not_mem_nil, or_false] at hC
    rcases hC with rfl
    · exact ⟨_, isErr_k ek_InvalidText⟩
  have fx_ : ∀ C ∈ [ga K "InvalidName", ga K "InvalidNumber", ga K "InvalidList", ga K "InvalidLook", ga K "InvalidSight", ga K "Late", ga K "InvalidText", ga K "Unknown"], ErrFx K C := by
    intro C hC
    simp only [List.mem_cons, List.not_mem_nil, or_false] at hC
    rcases hC with rfl | rfl | rfl | rfl | rfl | rfl | rfl | rfl
    · exact errFx_of ek_InvalidName ei_InvalidName
    · exact errFx_of ek_InvalidNumber ei_InvalidNumber
    · exact errFx_of ek_InvalidList ei_InvalidList
    · exact errFx_of ek_InvalidLook ei_InvalidLook
    · exact errFx_of ek_InvalidSight ei_InvalidSight
    · exact errFx_of ek_Late ei_Late
    · exact errFx_of ek_InvalidText ei_InvalidText
    · exact errFx_of ek_Unknown ei_Unknown
  obtain ⟨fd_l_pump, F_l_pump⟩ : ∃ fd, FunS K "_law_pump" "_law_pump" st_l_pump [] (ga K "_law_pump") fd := c.d.def_ 0 (d := d_l_pump) rfl
  obtain ⟨fd_l_cup, F_l_cup⟩ : ∃ fd, FunS K "_law_cup" "_law_cup" st_l_cup [] (ga K "_law_cup") fd := c.d.def_ 1 (d := d_l_cup) rfl
  obtain ⟨fd_l_named, F_l_named⟩ : ∃ fd, FunS K "_law_named" "_law_named" st_l_named [] (ga K "_law_named") fd := c.d.def_ 2 (d := d_l_named) rfl
  obtain ⟨fd_l_placed, F_l_placed⟩ : ∃ fd, FunS K "_law_placed" "_law_placed" st_l_placed [] (ga K "_law_placed") fd := c.d.def_ 3 (d := d_l_placed) rfl
  obtain ⟨fd_l_bare, F_l_bare⟩ : ∃ fd, FunS K "_law_bare" "_law_bare" st_l_bare [] (ga K "_law_bare") fd := c.d.def_ 4 (d := d_l_bare) rfl
  obtain ⟨fd_l_fields, F_l_fields⟩ : ∃ fd, FunS K "_law_fields" "_law_fields" st_l_fields [] (ga K "_law_fields") fd := c.d.def_ 5 (d := d_l_fields) rfl
  obtain ⟨fd_l_kinds, F_l_kinds⟩ : ∃ fd, FunS K "_law_kinds" "_law_kinds" st_l_kinds [] (ga K "_law_kinds") fd := c.d.def_ 6 (d := d_l_kinds) rfl
  obtain ⟨fd_law_2, F_law_2⟩ : ∃ fd, FunS K "law" "law" st_law_2 [] (ga K "law") fd := c.d.def_ 7 (d := d_law_2) rfl
  have el : f = ga K "law" := by
    have := hfa.symm.trans m_law
    cases this
    rfl
  subst el
  refine ⟨fd_law_2, fun s v => FunD.bindsA (ps := ["_law_script"]) F_law_2 (fun _ _ _ _ _ _ us hl => match us, hl with | [_], _ => rfl) s [v] rfl, fun base => ?_⟩
  have i_l_pump : IsFn PySem.Challenge.pw_seentops_k01_errors_made w K mg base "_law_pump" 1 ["_law_script", "_law_at"] (ds_l_pump) := isFn_D F_l_pump m__law_pump (FunD.bindsN (ps := ["_law_script", "_law_at"]) F_l_pump fun _ _ _ _ _ _ us hl => match us, hl with | [_, _], _ => rfl) sc_l_pump (fun _ _ _ _ _ _ C => der_l_pump (n_len := n_len) (n_int := n_int) (n_range := n_range) (C := C)) (len_l_pump) (law_l_pump)
  have i_l_cup : IsFn PySem.Challenge.pw_seentops_k01_errors_made w K mg base "_law_cup" 1 ["_law_pump_here", "_law_many"] (ds_l_cup) := isFn_D F_l_cup m__law_cup (FunD.bindsN (ps := ["_law_pump_here", "_law_many"]) F_l_cup fun _ _ _ _ _ _ us hl => match us, hl with | [_, _], _ => rfl) sc_l_cup (fun _ _ _ _ _ _ C => der_l_cup (n_int := n_int) (C := C)) (len_l_cup) (law_l_cup)
  have i_l_named : IsFn PySem.Challenge.pw_seentops_k01_errors_made w K mg base "_law_named" 1 ["_law_one"] (ds_l_named K) := isFn_D F_l_named m__law_named (FunD.bindsN (ps := ["_law_one"]) F_l_named fun _ _ _ _ _ _ us hl => match us, hl with | [_], _ => rfl) sc_l_named (fun _ _ _ _ _ _ C => der_l_named (ek_InvalidLook := ek_InvalidLook) (ek_InvalidList := ek_InvalidList) (ek_InvalidNumber := ek_InvalidNumber) (ek_InvalidName := ek_InvalidName) (ek_Unknown := ek_Unknown) (ek_InvalidText := ek_InvalidText) (ek_Late := ek_Late) (ek_InvalidSight := ek_InvalidSight) (C := C)) (len_l_named K) (law_l_named K)
  have i_l_placed : IsFn PySem.Challenge.pw_seentops_k01_errors_made w K mg base "_law_placed" 1 ["_law_thing"] (ds_l_placed K) := isFn_D F_l_placed m__law_placed (FunD.bindsN (ps := ["_law_thing"]) F_l_placed fun _ _ _ _ _ _ us hl => match us, hl with | [_], _ => rfl) sc_l_placed (fun _ _ _ _ _ _ C => der_l_placed (ek_InvalidSight := ek_InvalidSight) (ek_InvalidLook := ek_InvalidLook) (ek_InvalidList := ek_InvalidList) (ek_InvalidNumber := ek_InvalidNumber) (ek_InvalidName := ek_InvalidName) (ek_Unknown := ek_Unknown) (ek_InvalidText := ek_InvalidText) (ek_Late := ek_Late) (C := C)) (len_l_placed K) (law_l_placed K)
  have i_l_bare : IsFn PySem.Challenge.pw_seentops_k01_errors_made w K mg base "_law_bare" 1 [] (ds_l_bare K) := isFn_D F_l_bare m__law_bare (FunD.bindsN (ps := []) F_l_bare fun _ _ _ _ _ _ us hl => match us, hl with | [], _ => rfl) sc_l_bare (fun _ _ _ _ _ _ C => der_l_bare (ek_InvalidSight := ek_InvalidSight) (ek_InvalidLook := ek_InvalidLook) (ek_InvalidList := ek_InvalidList) (ek_InvalidNumber := ek_InvalidNumber) (ek_InvalidName := ek_InvalidName) (ek_Unknown := ek_Unknown) (ek_InvalidText := ek_InvalidText) (ek_Late := ek_Late) (C := C)) (len_l_bare K) (law_l_bare K)
  have i_l_fields : IsFn PySem.Challenge.pw_seentops_k01_errors_made w K mg base "_law_fields" 1 ["_law_errors"] (ds_l_fields K) := isFn_D F_l_fields m__law_fields (FunD.bindsN (ps := ["_law_errors"]) F_l_fields fun _ _ _ _ _ _ us hl => match us, hl with | [_], _ => rfl) sc_l_fields (fun _ _ _ _ _ _ C => der_l_fields (ef_value := ef_value) (ef_which := ef_which) (ef_spot := ef_spot) (C := C)) (len_l_fields K) (law_l_fields K)
  have i_l_kinds : IsFn PySem.Challenge.pw_seentops_k01_errors_made w K mg base "_law_kinds" 1 ["_law_error"] (ds_l_kinds K) := isFn_D F_l_kinds m__law_kinds (FunD.bindsN (ps := ["_law_error"]) F_l_kinds fun _ _ _ _ _ _ us hl => match us, hl with | [_], _ => rfl) sc_l_kinds (fun _ _ _ _ _ _ C => der_l_kinds (fx_ := fx_) (er_InvalidList := er_InvalidList) (m_InvalidList := m_InvalidList) (n_isinstance := n_isinstance) (er_InvalidNumber := er_InvalidNumber) (m_InvalidNumber := m_InvalidNumber) (er_InvalidName := er_InvalidName) (m_InvalidName := m_InvalidName) (er_Late := er_Late) (m_Late := m_Late) (er_InvalidSight := er_InvalidSight) (m_InvalidSight := m_InvalidSight) (er_InvalidLook := er_InvalidLook) (m_InvalidLook := m_InvalidLook) (er_Unknown := er_Unknown) (m_Unknown := m_Unknown) (er_InvalidText := er_InvalidText) (m_InvalidText := m_InvalidText) (C := C)) (len_l_kinds K) (law_l_kinds K)
  exact okFD F_law_2 sc_law_2 (len_law_2 K) (fun cdv A outer s H E hr => der_law_2 (i_l_pump := i_l_pump) (i_l_cup := i_l_cup) (i_l_named := i_l_named) (i_l_placed := i_l_placed) (i_l_bare := i_l_bare) (i_l_fields := i_l_fields) (n_range := n_range) (i_l_kinds := i_l_kinds) (fx_ := fx_) (er_ValueError := er_ValueError) (n_isinstance := n_isinstance) (n_ValueError := n_ValueError) (er_TopsError := er_TopsError) (m_TopsError := m_TopsError) (C := .one hr sc_law_2.nd)) (law_law_2 K nd)
end Lk01
open PySem PySem.W PySem.Calls PyProof.Rows
theorem Lk01_holds : PySem.Challenge.rw_seentops_k01_errors_made.Holds := by
  w_on; o_law
  refine HandSHeadRun.head_any (r := OpenLaw.row PySem.Challenge.rw_seentops_k01_errors_made) (q := view (OpenLaw.row PySem.Challenge.rw_seentops_k01_errors_made).prog [18]) (H := Lk01.hk) (ob := Lk01.ob) (M := 8000) (loose := Lk01.loose) (d := HandSHeadRun.topDef (OpenLaw.row PySem.Challenge.rw_seentops_k01_errors_made).prog 18) (kwd := []) Lk01.ob_eq
    (by kernel_rfl) (fun s => by kernel_rfl) Lk01.run (by kernel_rfl) (by kernel_rfl) (by kernel_rfl) (by rfl) (by first | assumption | decide +kernel) (by decide +kernel) ⟨rfl, rfl, rfl, rfl, rfl, by decide +kernel⟩ ?hw ?hc
  case hw => w_witness2
  case hc =>
    refine Hd.walk_ofH (l := PySem.Challenge.rw_seentops_k01_errors_made) (n := 63) (k := 2) (x := "_law_script") rfl (by decide) (by kernel_rfl) ⟨rfl, by decide, by decide⟩ ?F
    intro w mg fa h Y G hmg0
    obtain ⟨K, KX, c⟩ := Y
    have hmg : mg ("law" : PySem.Str) = some (.ref fa) := by
      have e : (HandSHeadRun.topDef (OpenLaw.row PySem.Challenge.rw_seentops_k01_errors_made).prog 18).name = ("law" : PySem.Str) := by kernel_rfl
      rw [← e]
      exact hmg0
    obtain ⟨fd, hb, hF⟩ := Lk01.facts (w := w) KX G hmg c
    exact ⟨K, fd, DL.toSp K (Sp.ds_law_2 K), KX, hb, fun H a ns hl _ hS => Hd.law_says hS fun Q E q => ⟨ns, rfl, q⟩, fun base _ _ => hF base⟩
theorem PySem.Challenge.cw_seentops_k01_errors_made_holds : PySem.Challenge.rw_seentops_k01_errors_made.Holds := by
  exact Lk01_holds
